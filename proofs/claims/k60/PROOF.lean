import PyProof.Rows.All
import Wide.All
import OpenK.AllK
import Wide.FinOn
import HandS.ForMost
import HandS.ForExc
import HandS.Wide
import HandS.IsInst
import HandS.Deep
import HandS.Star
import HandS.Flow
import HandS.Zip
import HandS.FStr
import HandS.Style
import HandS.TupAny
import HandS.Conv
import HandS.Codes
import HandS.HeadHook2
import KE.GoesEnumKw
import KE.GoesMore
import HandS.Head0
import HandS.Head1
import HandS.Head2
import HandS.HeadEnd
import HandS.HeadHook1
import HandS.CallLocal
import PySem.Challenge.RW_handlebends_k60_nearest_known
set_option Elab.async false
set_option linter.all false
set_option autoImplicit false
set_option maxRecDepth 100000
set_option maxHeartbeats 0
namespace HB
open PySem L2
/-! ### data -/
abbrev D := PyData
abbrev Exn := Str × List (Str × D)
mutual
inductive Rp (K : PySem.W.Frag) (H : Hp) : V → D → Prop
  | non : Rp K H .non .none
  | bl (b : Bool) : Rp K H (.bl b) (.bool b)
  | int (i : Int) : Rp K H (.int i) (.int i)
  | str (x : Str) : Rp K H (.str x) (.str x)
  | lst {a : Addr} {xs : List V} {ds : List D} : H a = some (.lst xs) → RpAll K H xs ds → Rp K H (.ref a) (.list ds)
  | tup {a : Addr} {xs : List V} {ds : List D} : SqT K H a xs → RpAll K H xs ds → Rp K H (.ref a) (.tuple ds)
  | frz {a : Addr} {xs : List V} {ds : List D} : SqL K H a xs → RpAll K H xs ds → Rp K H (.ref a) (.dict [(.none, .list ds)])
  | obj {a dx : Addr} {c : Str} {fs : List (Str × V)} {kvs : List (D × D)} : H a = some (.ins (He.ga K c) dx fs) → RpF K H fs kvs → Rp K H (.ref a) (.dict ((.str c, .none) :: kvs))
  | adr (a : Addr) : Rp K H (.ref a) (.dict [(.int a, .none)])
  | fn (x : Str) : Rp K H (.ref (He.ga K x)) (.dict [(.none, .str x)])
inductive RpAll (K : PySem.W.Frag) (H : Hp) : List V → List D → Prop
  | nil : RpAll K H [] []
  | cons {v : V} {vs : List V} {d : D} {ds : List D} : Rp K H v d → RpAll K H vs ds → RpAll K H (v :: vs) (d :: ds)
inductive RpF (K : PySem.W.Frag) (H : Hp) : List (Str × V) → List (D × D) → Prop
  | nil : RpF K H [] []
  | cons {f : Str} {v : V} {fs : List (Str × V)} {d : D} {kvs : List (D × D)} : Rp K H v d → RpF K H fs kvs → RpF K H ((f, v) :: fs) ((.str f, d) :: kvs)
end
theorem sqT_mono {K : PySem.W.Frag} {H H' : Hp} {a : Addr} {xs : List V} (s : Same H H') (h : SqT K H a xs) : SqT K H' a xs := by
  exact h.elim (fun z => .inl (z.elim (fun y => .inl (s _ _ y)) fun ⟨o, y⟩ => .inr ⟨o, s _ _ y⟩)) .inr
theorem Rp.mono {K : PySem.W.Frag} {H H' : Hp} (s : Same H H') {v : V} {d : D} (r : Rp K H v d) : Rp K H' v d :=
  @Rp.rec K H (fun v d _ => Rp K H' v d) (fun vs ds _ => RpAll K H' vs ds) (fun fs kvs _ => RpF K H' fs kvs)
    .non (fun b => .bl b) (fun i => .int i) (fun x => .str x) (fun h _ ih => .lst (s _ _ h) ih) (fun h _ ih => .tup (sqT_mono s h) ih) (fun h _ ih => .frz (s.seq h) ih) (fun h _ ih => .obj (s _ _ h) ih) (fun a => .adr a) (fun x => .fn x)
    .nil (fun _ _ h t => .cons h t) .nil (fun _ _ h t => .cons h t) v d r
theorem RpAll.mono {K : PySem.W.Frag} {H H' : Hp} (s : Same H H') : ∀ {vs : List V} {ds : List D}, RpAll K H vs ds → RpAll K H' vs ds
  | _, _, .nil => .nil
  | _, _, .cons r t => .cons (r.mono s) (RpAll.mono s t)
theorem RpAll.length {K : PySem.W.Frag} {H : Hp} : ∀ {vs : List V} {ds : List D}, RpAll K H vs ds → vs.length = ds.length
  | _, _, .nil => rfl
  | _, _, .cons _ t => congrArg (· + 1) t.length
theorem RpAll.get {K : PySem.W.Frag} {H : Hp} : ∀ {vs : List V} {ds : List D} {i : Nat} {d : D}, RpAll K H vs ds → ds[i]? = some d → ∃ v, vs[i]? = some v ∧ Rp K H v d
  | _, _, _, _, .nil, no => by simp at no
  | _, _, 0, _, .cons r _, e => by
    have e2 := Option.some.inj (show some _ = some _ from e)
    subst e2
    exact ⟨_, rfl, r⟩
  | _, _, i + 1, _, .cons _ t, e => by
    obtain ⟨v, h1, h2⟩ := RpAll.get (i := i) t e
    exact ⟨v, h1, h2⟩
theorem RpAll.append {K : PySem.W.Frag} {H : Hp} : ∀ {vs ws : List V} {ds es : List D}, RpAll K H vs ds → RpAll K H ws es → RpAll K H (vs ++ ws) (ds ++ es)
  | _, _, _, _, .nil, s => s
  | _, _, _, _, .cons r t, s => .cons r (t.append s)
theorem RpAll.set {K : PySem.W.Frag} {H : Hp} {v : V} {d : D} (r : Rp K H v d) : ∀ {vs : List V} {ds : List D} (i : Nat), RpAll K H vs ds → RpAll K H (vs.set i v) (ds.set i d)
  | _, _, _, .nil => .nil
  | _, _, 0, .cons _ rest => .cons r rest
  | _, _, i + 1, .cons q t => .cons q (RpAll.set r i t)
theorem RpAll.take {K : PySem.W.Frag} {H : Hp} : ∀ {vs : List V} {ds : List D} (n : Nat), RpAll K H vs ds → RpAll K H (vs.take n) (ds.take n)
  | _, _, 0, _ => .nil
  | _, _, _ + 1, .nil => .nil
  | _, _, n + 1, .cons r t => .cons r (t.take n)
theorem RpAll.drop {K : PySem.W.Frag} {H : Hp} : ∀ {vs : List V} {ds : List D} (n : Nat), RpAll K H vs ds → RpAll K H (vs.drop n) (ds.drop n)
  | _, _, 0, r => r
  | _, _, _ + 1, .nil => .nil
  | _, _, n + 1, .cons _ t => t.drop n
/-! ### slots, states -/
inductive Sl where
  | no
  | pur (d : D)
  | own (ds : List D)
  | box (ds : List D)
def Sl.ls : Sl → Option (List D)
  | .own ds => some ds
  | .box ds => some ds
  | _ => none
abbrev En := List Sl
/-- a list that is the slot's alone stands at b -/
def Ownd (ρ : En) (σ : St) (b : Addr) : Prop := ∃ (i : Nat) (s : Sl) (ds : List D), ρ[i]? = some s ∧ s.ls = some ds ∧ σ[i]? = some (some (.ref b))
structure J (K : PySem.W.Frag) (G : Hp) (ρ : En) (σ : St) (H : Hp) : Prop where
  sub : Same G H
  len : ρ.length = σ.length
  pur : ∀ (i : Nat) (d : D), ρ[i]? = some (.pur d) → ∃ v, σ[i]? = some (some v) ∧ Rp K G v d
  own : ∀ (i : Nat) (s : Sl) (ds : List D), ρ[i]? = some s → s.ls = some ds → ∃ (a : Addr) (vs : List V), σ[i]? = some (some (.ref a)) ∧ H a = some (.lst vs) ∧ G a = none ∧ RpAll K G vs ds
  dis : ∀ (i j : Nat) (s t : Sl) (ds es : List D) (b : Addr), ρ[i]? = some s → s.ls = some ds → ρ[j]? = some t → t.ls = some es → σ[i]? = some (some (.ref b)) → σ[j]? = some (some (.ref b)) → i = j
/-- what may have happened -/
structure Ex (K : PySem.W.Frag) (G : Hp) (ρ : En) (σ : St) (H : Hp) (G' : Hp) (ρ' : En) (σ' : St) (H' : Hp) : Prop where
  j : J K G' ρ' σ' H'
  g : Same G G'
  new : ∀ b, G' b ≠ none → G b ≠ none ∨ H b = none ∨ Ownd ρ σ b
  kept : ∀ b o, H b = some o → ¬ Ownd ρ σ b → H' b = some o
  ow : ∀ b, Ownd ρ' σ' b → Ownd ρ σ b ∨ H b = none
  dom : ∀ b, H' b = none → H b = none
  bx : ∀ (i : Nat) (ds : List D), ρ'[i]? = some (.box ds) → (∃ es, ρ[i]? = some (.box es)) ∧ σ'[i]? = σ[i]?
/-- nothing that was there is changed -/
structure PX (G H G' H' : Hp) : Prop where
  h : Same H H'
  g : Same G G'
  s : Same G' H'
  new : ∀ b, G' b ≠ none → G b ≠ none ∨ H b = none
theorem PX.refl {G H : Hp} (s : Same G H) : PX G H G H := ⟨.refl _, .refl _, s, fun _ h => .inl h⟩
theorem PX.trans {G H G1 H1 G2 H2 : Hp} (a : PX G H G1 H1) (b : PX G1 H1 G2 H2) : PX G H G2 H2 :=
  ⟨a.h.trans b.h, a.g.trans b.g, b.s, fun c hc => (b.new c hc).elim (fun z => a.new c z) fun z => .inr (a.h.free z)⟩
theorem same_upd {H : Hp} {p : Addr} {o : HO} (np : H p = none) : Same H (upd H p o) := fun b x e => (upd_ne (ne_of_none e np)).trans e
theorem same_upd2 {G H : Hp} {p : Addr} {o : HO} (s : Same G H) : Same (upd G p o) (upd H p o) := fun b x e => by
  by_cases hb : b = p
  · subst hb; rw [upd_same] at e ⊢; exact e
  · rw [upd_ne hb] at e ⊢; exact s _ _ e
/-- a new object -/
theorem PX.alloc {G H : Hp} (s : Same G H) {p : Addr} (hp : H p = none) (o : HO) : PX G H (upd G p o) (upd H p o) :=
  ⟨same_upd hp, same_upd (s.free hp), same_upd2 s, fun b hb => by
    by_cases e : b = p
    · subst e; exact .inr hp
    · rw [upd_ne e] at hb; exact .inl hb⟩
section
variable {K : PySem.W.Frag} {G H G' H' : Hp} {ρ ρ' : En} {σ σ' : St}
theorem J.px (j : J K G ρ σ H) (x : PX G H G' H') : J K G' ρ σ H' where
  sub := x.s
  len := j.len
  pur := fun i d e => let ⟨v, h1, h2⟩ := j.pur i d e; ⟨v, h1, h2.mono x.g⟩
  own := fun i s ds e hl => by
    obtain ⟨a, vs, h1, h2, h3, h4⟩ := j.own i s ds e hl
    refine ⟨a, vs, h1, x.h _ _ h2, ?_, h4.mono x.g⟩
    cases q : G' a with
    | none => rfl
    | some o =>
      rcases x.new a (by rw [q]; simp) with z | z
      · exact absurd h3 z
      · rw [h2] at z; cases z
  dis := j.dis
theorem J.ex (j : J K G ρ σ H) (x : PX G H G' H') : Ex K G ρ σ H G' ρ σ H' :=
  ⟨j.px x, x.g, fun b hb => (x.new b hb).elim .inl fun z => .inr (.inl z), fun b o e _ => x.h _ _ e, fun b h => .inl h, fun b h => x.h.free h, fun i ds h => ⟨⟨ds, h⟩, rfl⟩⟩
theorem J.refl (j : J K G ρ σ H) : Ex K G ρ σ H G ρ σ H := j.ex (.refl j.sub)
theorem J.ownd (j : J K G ρ σ H) {b : Addr} (h : Ownd ρ σ b) : ∃ vs, H b = some (.lst vs) ∧ G b = none := by
  obtain ⟨i, s, ds, h1, hl, h2⟩ := h
  obtain ⟨a, vs, h3, h4, h5, _⟩ := j.own i s ds h1 hl
  rw [h2] at h3
  cases h3
  exact ⟨vs, h4, h5⟩
theorem Ex.trans {G1 G2 H1 H2 : Hp} {ρ1 ρ2 : En} {σ1 σ2 : St} (a : Ex K G ρ σ H G1 ρ1 σ1 H1) (b : Ex K G1 ρ1 σ1 H1 G2 ρ2 σ2 H2) : Ex K G ρ σ H G2 ρ2 σ2 H2 where
  j := b.j
  g := a.g.trans b.g
  new := fun c hc => by
    rcases b.new c hc with z | z | z
    · exact a.new c z
    · exact .inr (.inl (a.dom c z))
    · rcases a.ow c z with z | z
      · exact .inr (.inr z)
      · exact .inr (.inl z)
  kept := fun c o e n => b.kept c o (a.kept c o e n) fun z => by
    rcases a.ow c z with z | z
    · exact n z
    · rw [e] at z; cases z
  ow := fun c hc => by
    rcases b.ow c hc with z | z
    · exact a.ow c z
    · exact .inr (a.dom c z)
  dom := fun c hc => a.dom c (b.dom c hc)
  bx := fun i ds h => by
    obtain ⟨⟨es, h1⟩, h2⟩ := b.bx i ds h
    obtain ⟨h3, h4⟩ := a.bx i es h1
    exact ⟨h3, h2.trans h4⟩
end
end HB
namespace HB
open PySem L2
/-! ### what is reckoned -/
abbrev Mo (α : Type) := En → Option (Except Exn (En × α))
def mRet {α : Type} (a : α) : Mo α := fun ρ => some (.ok (ρ, a))
def mBind {α β : Type} (m : Mo α) (f : α → Mo β) : Mo β := fun ρ => match m ρ with
  | none => none
  | some (.error x) => some (.error x)
  | some (.ok (ρ', a)) => f a ρ'
def mLift {α : Type} (o : Option α) : Mo α := fun ρ => match o with
  | none => none
  | some a => some (.ok (ρ, a))
/-! ### what is wanted behind it -/
/-- an exception as it lies -/
def XP (K : PySem.W.Frag) (G : Hp) (ρ : En) (σ : St) (H : Hp) (x : Exn) (C : Value) (dx : Option Addr) (H' : Hp) : Prop :=
  C = .ref (He.ga K x.1) ∧ ∃ G' : Hp, Same G G' ∧ Same G' H' ∧ (∀ b, G' b ≠ none → G b ≠ none ∨ H b = none ∨ Ownd ρ σ b) ∧ (∀ b o, H b = some o → ¬ Ownd ρ σ b → H' b = some o) ∧ (∀ b, H' b = none → H b = none) ∧
    ((dx = none ∧ x.2 = []) ∨ ∃ d fs, dx = some d ∧ H' d = some (.xd fs) ∧ RpF K G' fs (x.2.map fun p => (.str p.1, p.2)))
section
variable {K : PySem.W.Frag} {E : XK} {α β : Type}
def Post (K : PySem.W.Frag) (E : XK) (R : Hp → β → α → Prop) (G : Hp) (ρ : En) (σ : St) (H : Hp) (Q : β → Hp → Prop) : Option (Except Exn (En × α)) → Prop
  | none => False
  | some (.error x) => ∀ C dx H', XP K G ρ σ H x C dx H' → E C dx H'
  | some (.ok (ρ', a)) => ∀ G' v H', Ex K G ρ σ H G' ρ' σ H' → R G' v a → Q v H'
variable {G G1 H H1 : Hp} {ρ ρ1 : En} {σ σ1 : St} {R : Hp → β → α → Prop} {Q : β → Hp → Prop}
theorem XP.trans (e : Ex K G ρ σ H G1 ρ1 σ1 H1) {x : Exn} {C : Value} {dx : Option Addr} {H' : Hp} (h : XP K G1 ρ1 σ1 H1 x C dx H') : XP K G ρ σ H x C dx H' := by
  obtain ⟨h1, G', h2, h3, h4, h5, h6, h7⟩ := h
  refine ⟨h1, G', e.g.trans h2, h3, fun b hb => ?_, fun b o q n => h5 b o (e.kept b o q n) fun z => ?_, fun b hb => e.dom b (h6 b hb), h7⟩
  · rcases h4 b hb with z | z | z
    · exact e.new b z
    · exact .inr (.inl (e.dom b z))
    · rcases e.ow b z with z | z
      · exact .inr (.inr z)
      · exact .inr (.inl z)
  · rcases e.ow b z with z | z
    · exact n z
    · rw [q] at z; cases z
theorem Post.ex {o : Option (Except Exn (En × α))} (e : Ex K G ρ σ H G1 ρ1 σ H1) (h : Post K E R G ρ σ H Q o) : Post K E R G1 ρ1 σ H1 Q o := by
  match o, h with
  | some (.error x), h => exact fun C dx H' z => h C dx H' (XP.trans e z)
  | some (.ok (ρ', a)), h => exact fun G' v H' z r => h G' v H' (e.trans z) r
theorem Post.imp {γ δ : Type} {R' : Hp → δ → γ → Prop} {Q' : δ → Hp → Prop} {m : Mo γ} {f : γ → Mo α} (h : Post K E R G ρ σ H Q (mBind m f ρ))
    (k : ∀ G1 ρ1 v H1 a, Ex K G ρ σ H G1 ρ1 σ H1 → R' G1 v a → Post K E R G1 ρ1 σ H1 Q (f a ρ1) → Q' v H1) : Post K E R' G ρ σ H Q' (m ρ) := by
  unfold mBind at h
  cases q : m ρ with
  | none => rw [q] at h; exact h
  | some r =>
    rw [q] at h
    cases r with
    | error x => exact h
    | ok p =>
      obtain ⟨ρ', a⟩ := p
      exact fun G' v H' z r => k G' ρ' v H' a z r (Post.ex z h)
theorem Post.lift {o : Option α} {ρ' : En} (h : Post K E R G ρ σ H Q (mLift o ρ)) : ∃ a, o = some a ∧ ∀ G' v H', Ex K G ρ σ H G' ρ σ H' → R G' v a → Q v H' := by
  cases o with
  | none => exact False.elim h
  | some a => exact ⟨a, rfl, h⟩
end
/-! ### judgements -/
/-- an expression -/
def EV (X : Cx) (E : XK) (e : Expr) (f : Mo D) : Prop := ∃ t, PE X e t ∧ ∀ G ρ σ H Q, J X.K G ρ σ H → Post X.K E (Rp X.K) G ρ σ H Q (f ρ) → t σ H Q
/-- a test -/
def ET (X : Cx) (E : XK) (e : Expr) (f : Mo Bool) : Prop := ∃ t, PT X e t ∧ ∀ G ρ σ H Q, J X.K G ρ σ H → Post X.K E (fun _ b c => b = c) G ρ σ H Q (f ρ) → t σ H Q
/-- a BoolOp's tests -/
def EW (X : Cx) (E : XK) (e : Expr) (f : Mo Bool) : Prop := ∃ t, PW X e t ∧ ∀ G ρ σ H Q, J X.K G ρ σ H → Post X.K E (fun _ b c => b = c) G ρ σ H Q (f ρ) → t σ H Q
/-- arguments -/
def EA (X : Cx) (E : XK) (es : List Expr) (f : Mo (List D)) : Prop := ∃ t, PA X es t ∧ ∀ G ρ σ H Q, J X.K G ρ σ H → Post X.K E (RpAll X.K) G ρ σ H Q (f ρ) → t σ H Q
/-- a list that nobody else holds -/
def RpN (K : PySem.W.Frag) (H0 H' : Hp) (G' : Hp) (ρ' : En) (σ : St) (v : V) (ds : List D) : Prop := ∃ a vs, v = .ref a ∧ H0 a = none ∧ G' a = none ∧ H' a = some (.lst vs) ∧ ¬ Ownd ρ' σ a ∧ RpAll K G' vs ds
def PostN (K : PySem.W.Frag) (E : XK) (G : Hp) (ρ : En) (σ : St) (H : Hp) (Q : VK) : Option (Except Exn (En × List D)) → Prop
  | none => False
  | some (.error x) => ∀ C dx H', XP K G ρ σ H x C dx H' → E C dx H'
  | some (.ok (ρ', ds)) => ∀ G' v H', Ex K G ρ σ H G' ρ' σ H' → RpN K H H' G' ρ' σ v ds → Q v H'
/-- an expression that makes a new list -/
def EN (X : Cx) (E : XK) (e : Expr) (f : Mo (List D)) : Prop := ∃ t, PE X e t ∧ ∀ G ρ σ H Q, J X.K G ρ σ H → PostN X.K E G ρ σ H Q (f ρ) → t σ H Q
inductive Fl where
  | nx
  | rt (d : D)
  | bk
  | ct
def PostS (K : PySem.W.Frag) (E : XK) (G : Hp) (ρ : En) (σ : St) (H : Hp) (De : Ends) : Option (Except Exn (En × Fl)) → Prop
  | none => False
  | some (.error x) => ∀ C dx H', XP K G ρ σ H x C dx H' → E C dx H'
  | some (.ok (ρ', .nx)) => ∀ G' σ' H', Ex K G ρ σ H G' ρ' σ' H' → De.nx σ' H'
  | some (.ok (ρ', .bk)) => ∀ G' σ' H', Ex K G ρ σ H G' ρ' σ' H' → De.bk σ' H'
  | some (.ok (ρ', .ct)) => ∀ G' σ' H', Ex K G ρ σ H G' ρ' σ' H' → De.ct σ' H'
  | some (.ok (ρ', .rt d)) => ∀ G' σ' v H', Ex K G ρ σ H G' ρ' σ' H' → Rp K G' v d → De.rt v H'
def SV (X : Cx) (E : XK) (s : Stmt) (g : Mo Fl) : Prop := ∃ t, PS X s t ∧ ∀ G ρ σ H De, J X.K G ρ σ H → PostS X.K E G ρ σ H De (g ρ) → t De σ H
def SVs (X : Cx) (E : XK) (s : List Stmt) (g : Mo Fl) : Prop := ∃ t, PSs X s t ∧ ∀ G ρ σ H De, J X.K G ρ σ H → PostS X.K E G ρ σ H De (g ρ) → t De σ H
section
variable {X : Cx} {E : XK}
theorem PostS.ex {G G1 H H1 : Hp} {ρ ρ1 : En} {σ σ1 : St} {K : PySem.W.Frag} {De : Ends} {o : Option (Except Exn (En × Fl))} (e : Ex K G ρ σ H G1 ρ1 σ1 H1) (h : PostS K E G ρ σ H De o) : PostS K E G1 ρ1 σ1 H1 De o := by
  match o, h with
  | some (.error x), h => exact fun C dx H' z => h C dx H' (XP.trans e z)
  | some (.ok (ρ', .nx)), h => exact fun G' v H' z => h G' v H' (e.trans z)
  | some (.ok (ρ', .bk)), h => exact fun G' v H' z => h G' v H' (e.trans z)
  | some (.ok (ρ', .ct)), h => exact fun G' v H' z => h G' v H' (e.trans z)
  | some (.ok (ρ', .rt d)), h => exact fun G' s' v H' z r => h G' s' v H' (e.trans z) r
/-- an expression first, then a statement -/
theorem PostS.imp {K : PySem.W.Frag} {G H : Hp} {ρ : En} {σ : St} {De : Ends} {γ δ : Type} {R' : Hp → δ → γ → Prop} {Q' : δ → Hp → Prop} {m : Mo γ} {f : γ → Mo Fl} (h : PostS K E G ρ σ H De (mBind m f ρ))
    (k : ∀ G1 ρ1 v H1 a, Ex K G ρ σ H G1 ρ1 σ H1 → R' G1 v a → PostS K E G1 ρ1 σ H1 De (f a ρ1) → Q' v H1) : Post K E R' G ρ σ H Q' (m ρ) := by
  unfold mBind at h
  cases q : m ρ with
  | none => rw [q] at h; exact h
  | some r =>
    rw [q] at h
    cases r with
    | error x => exact h
    | ok p =>
      obtain ⟨ρ', a⟩ := p
      exact fun G' v H' z r => k G' ρ' v H' a z r (PostS.ex z h)
theorem PostS.impN {K : PySem.W.Frag} {G H : Hp} {ρ : En} {σ : St} {De : Ends} {Q' : VK} {m : Mo (List D)} {f : List D → Mo Fl} (h : PostS K E G ρ σ H De (mBind m f ρ))
    (k : ∀ G1 ρ1 v H1 a, Ex K G ρ σ H G1 ρ1 σ H1 → RpN K H H1 G1 ρ1 σ v a → PostS K E G1 ρ1 σ H1 De (f a ρ1) → Q' v H1) : PostN K E G ρ σ H Q' (m ρ) := by
  unfold mBind at h
  cases q : m ρ with
  | none => rw [q] at h; exact h
  | some r =>
    rw [q] at h
    cases r with
    | error x => exact h
    | ok p =>
      obtain ⟨ρ', a⟩ := p
      exact fun G' v H' z r => k G' ρ' v H' a z r (PostS.ex z h)
/-! ### names, constants -/
/-- a name of the def; a list of its own is held by others too from then on -/
def mVar (i : Nat) : Mo D := fun ρ => match ρ[i]? with
  | some (.pur d) => some (.ok (ρ, d))
  | some (.own ds) => some (.ok (ρ.set i (.pur (.list ds)), .list ds))
  | _ => none
theorem J.freeze {K : PySem.W.Frag} {G H : Hp} {ρ : En} {σ : St} (j : J K G ρ σ H) {i : Nat} {ds : List D} (h : ρ[i]? = some (.own ds)) :
    ∃ a vs, σ[i]? = some (some (.ref a)) ∧ Ex K G ρ σ H (upd G a (.lst vs)) (ρ.set i (.pur (.list ds))) σ H ∧ Rp K (upd G a (.lst vs)) (.ref a) (.list ds) := by
  obtain ⟨a, vs, h1, h2, h3, h4⟩ := j.own i _ ds h rfl
  have sg : Same G (upd G a (.lst vs)) := same_upd h3
  have hi : i < ρ.length := (List.getElem?_eq_some_iff.mp h).1
  have r : Rp K (upd G a (.lst vs)) (.ref a) (.list ds) := .lst upd_same (h4.mono sg)
  have at_ : ∀ (k : Nat) (s : Sl), (ρ.set i (.pur (.list ds)))[k]? = some s → (k = i ∧ s = .pur (.list ds)) ∨ (k ≠ i ∧ ρ[k]? = some s) := fun k s e => by
    by_cases hk : k = i
    · subst hk
      rw [List.getElem?_set_self hi] at e
      exact .inl ⟨rfl, (Option.some.inj e).symm⟩
    · rw [List.getElem?_set_ne (Ne.symm hk)] at e
      exact .inr ⟨hk, e⟩
  refine ⟨a, vs, h1, ⟨⟨fun b o e => ?_, by rw [List.length_set]; exact j.len, fun k d e => ?_, fun k s es e hl => ?_, fun k l s t es fs b e1 l1 e2 l2 e3 e4 => ?_⟩, sg, fun b hb => ?_, fun b o e _ => e, fun b hb => ?_, fun _ z => z, fun k es e => ?_⟩, r⟩
  · by_cases hb : b = a
    · subst hb; rw [upd_same] at e; rw [← e]; exact h2
    · rw [upd_ne hb] at e; exact j.sub _ _ e
  · rcases at_ k _ e with ⟨rfl, e'⟩ | ⟨_, e'⟩
    · cases e'
      exact ⟨_, h1, r⟩
    · obtain ⟨v, q1, q2⟩ := j.pur k d e'
      exact ⟨v, q1, q2.mono sg⟩
  · rcases at_ k _ e with ⟨_, e'⟩ | ⟨hk, e'⟩
    · subst e'; cases hl
    · obtain ⟨a', ws, q1, q2, q3, q4⟩ := j.own k s es e' hl
      have ne : a' ≠ a := fun z => by
        subst z
        exact hk (j.dis k i _ _ es ds a' e' hl h rfl q1 h1)
      exact ⟨a', ws, q1, q2, by rw [upd_ne ne]; exact q3, q4.mono sg⟩
  · rcases at_ k _ e1 with ⟨_, e'⟩ | ⟨hk, e'⟩
    · subst e'; cases l1
    · rcases at_ l _ e2 with ⟨_, f'⟩ | ⟨hl, f'⟩
      · subst f'; cases l2
      · exact j.dis k l _ _ es fs b e' l1 f' l2 e3 e4
  · by_cases e : b = a
    · subst e
      exact .inr (.inr ⟨i, _, ds, h, rfl, h1⟩)
    · rw [upd_ne e] at hb
      exact .inl hb
  · obtain ⟨k, s, es, e1, l1, e2⟩ := hb
    rcases at_ k _ e1 with ⟨_, e'⟩ | ⟨hk, e'⟩
    · subst e'; cases l1
    · exact .inl ⟨k, s, es, e', l1, e2⟩
  · rcases at_ k _ e with ⟨_, e'⟩ | ⟨_, e'⟩
    · cases e'
    · exact ⟨⟨es, e'⟩, rfl⟩
theorem ev_var (i : Nat) {x : Str} {pos : Pos} (hN : X.N[i]? = some x := by rfl) (hv : Vis X.env.scope x := by first | exact Or.inl rfl | exact Or.inr (Or.inl rfl) | exact Or.inr (Or.inr rfl)) (hd : (x == ("__debug__" : Str)) = false := by decide)
    (hcd : (x == ("__classdict__" : Str)) = false := by decide) : EV X E (.Name x pos) (mVar i) := by
  refine ⟨tVar i, pe_var hN hv hd hcd, fun G ρ σ H Q j h => ?_⟩
  unfold mVar at h
  cases q : ρ[i]? with
  | none => rw [q] at h; exact h.elim
  | some s =>
    rw [q] at h
    cases s with
    | no => exact h.elim
    | box _ => exact h.elim
    | pur d =>
      obtain ⟨v, h1, h2⟩ := j.pur i d q
      exact ⟨v, h1, h G v H j.refl h2⟩
    | own ds =>
      obtain ⟨a, vs, h1, h2, h3⟩ := j.freeze q
      exact ⟨_, h1, h _ _ _ h2 h3⟩
theorem ev_int {i : Int} {k : Nat} {pos : Pos} : EV X E (.Constant (.int i) k pos) (mRet (.int i)) := ⟨_, pe_int, fun G ρ σ H Q j h => h G _ H j.refl (.int i)⟩
theorem ev_bl {i : Bool} {k : Nat} {pos : Pos} : EV X E (.Constant (.bool i) k pos) (mRet (.bool i)) := ⟨_, pe_bl, fun G ρ σ H Q j h => h G _ H j.refl (.bl i)⟩
theorem ev_non {k : Nat} {pos : Pos} : EV X E (.Constant .none k pos) (mRet .none) := ⟨_, pe_non, fun G ρ σ H Q j h => h G _ H j.refl .non⟩
theorem ev_str {x : Str} {k : Nat} {pos : Pos} : EV X E (.Constant (.str x) k pos) (mRet (.str x)) := ⟨_, pe_str, fun G ρ σ H Q j h => h G _ H j.refl (.str x)⟩
/-- a module's constant -/
def GlD (K : PySem.W.Frag) (mg : Str → Option Value) (x : Str) (d : D) : Prop := ∃ v u, mg x = some u ∧ RelV v u ∧ ∀ H, Rp K H v d
theorem ev_glob {x : Str} {pos : Pos} {d : D} (g : GlD X.K X.mg x d) (hg : Gl X x := by rfl) (hd : (x == ("__debug__" : Str)) = false := by decide) : EV X E (.Name x pos) (mRet d) := by
  obtain ⟨v, u, h1, h2, h3⟩ := g
  exact ⟨_, pe_glob hg h1 h2 hd, fun G ρ σ H Q j h => h G _ H j.refl (h3 G)⟩
/-! ### operators -/
/-- a two-place operation on data -/
def DOp (X : Cx) (sem : Value → Value → Sem Value) (f : D → D → Option D) : Prop := ∃ r, OpR X sem r ∧ ∀ G H x y a b c Q, Same G H → Rp X.K G x a → Rp X.K G y b → f a b = some c →
  (∀ G' v H', PX G H G' H' → Rp X.K G' v c → Q v H') → r x y H Q
def mOp (f : D → D → Option D) (a b : Mo D) : Mo D := mBind a fun x => mBind b fun y => mLift (f x y)
theorem bin_sem {ta tb : TE} {r : R2} {fa fb : Mo D} {f : D → D → Option D} {sem : Value → Value → Sem Value}
    (ha : ∀ G ρ σ H Q, J X.K G ρ σ H → Post X.K E (Rp X.K) G ρ σ H Q (fa ρ) → ta σ H Q) (hb : ∀ G ρ σ H Q, J X.K G ρ σ H → Post X.K E (Rp X.K) G ρ σ H Q (fb ρ) → tb σ H Q)
    (hr : ∀ G H x y a b c Q, Same G H → Rp X.K G x a → Rp X.K G y b → f a b = some c → (∀ G' v H', PX G H G' H' → Rp X.K G' v c → Q v H') → r x y H Q) :
    ∀ G ρ σ H Q, J X.K G ρ σ H → Post X.K E (Rp X.K) G ρ σ H Q (mOp f fa fb ρ) → tOp r ta tb σ H Q := by
  intro G ρ σ H Q j h
  refine ha G ρ σ H _ j (Post.imp h fun G1 ρ1 x H1 a e1 r1 h1 => ?_)
  refine hb G1 ρ1 σ H1 _ e1.j (Post.imp h1 fun G2 ρ2 y H2 b e2 r2 h2 => ?_)
  obtain ⟨c, hc, k⟩ := Post.lift (ρ' := ρ2) h2
  exact hr G2 H2 x y a b c Q e2.j.sub (r1.mono e2.g) r2 hc fun G' v H' p q => k G' v H' (e2.j.ex p) q
theorem ev_op {op : Operator} {a b : Expr} {pos : Pos} {fa fb : Mo D} {f : D → D → Option D} (ho : DOp X (binaryOp op) f) (ha : EV X E a fa) (hb : EV X E b fb) : EV X E (.BinOp a op b pos) (mOp f fa fb) := by
  obtain ⟨r, o, hr⟩ := ho
  obtain ⟨ta, pa, qa⟩ := ha
  obtain ⟨tb, pb, qb⟩ := hb
  exact ⟨_, pe_op o pa pb, bin_sem (sem := binaryOp op) qa qb hr⟩
theorem ev_cmp {op : CmpOp} {a b : Expr} {pos : Pos} {fa fb : Mo D} {f : D → D → Option D} (ho : DOp X (compareOp op) f) (ha : EV X E a fa) (hb : EV X E b fb) (hm : behindInMarks op b = false) : EV X E (.Compare a [op] [b] pos) (mOp f fa fb) := by
  obtain ⟨r, o, hr⟩ := ho
  obtain ⟨ta, pa, qa⟩ := ha
  obtain ⟨tb, pb, qb⟩ := hb
  exact ⟨_, pe_cmpR o pa pb hm, bin_sem (sem := compareOp op) qa qb hr⟩
/-- a value as a test: it must be a bool -/
def boolD : D → Option Bool
  | .bool b => some b
  | _ => none
def mTest (f : Mo D) : Mo Bool := mBind f fun d => mLift (boolD d)
theorem test_sem {t : TE} {f : Mo D} (ha : ∀ G ρ σ H Q, J X.K G ρ σ H → Post X.K E (Rp X.K) G ρ σ H Q (f ρ) → t σ H Q) :
    ∀ G ρ σ H Q, J X.K G ρ σ H → Post X.K E (fun _ b c => b = c) G ρ σ H Q (mTest f ρ) → tTest t σ H Q := by
  intro G ρ σ H Q j h
  refine ha G ρ σ H _ j (Post.imp h fun G1 ρ1 x H1 a e1 r1 h1 => ?_)
  obtain ⟨c, hc, k⟩ := Post.lift (ρ' := ρ1) h1
  cases r1 with
  | bl b =>
    cases hc
    exact ⟨_, rfl, k G1 _ H1 e1.j.refl rfl⟩
  | _ => cases hc
theorem et_cmp {op : CmpOp} {a b : Expr} {pos : Pos} {fa fb : Mo D} {f : D → D → Option D} (ho : DOp X (compareOp op) f) (ha : EV X E a fa) (hb : EV X E b fb) (hm : behindInMarks op b = false) : ET X E (.Compare a [op] [b] pos) (mTest (mOp f fa fb)) := by
  obtain ⟨r, o, hr⟩ := ho
  obtain ⟨ta, pa, qa⟩ := ha
  obtain ⟨tb, pb, qb⟩ := hb
  exact ⟨_, pt_cmpR o pa pb hm, test_sem (bin_sem (sem := compareOp op) qa qb hr)⟩
theorem et_val {e : Expr} {f : Mo D} (h : EV X E e f) (he : ∀ whole, isTrue e X.env whole = (do let v ← whole; standAt e.pos; holding [v] (truthy v)) := by intro _; rfl) : ET X E e (mTest f) := by
  obtain ⟨t, p, q⟩ := h
  exact ⟨_, pt_val p he, fun G ρ σ H Q j h => test_sem q G ρ σ H Q j h⟩
/-! ### and, or, not -/
def mAnd (a b : Mo Bool) : Mo Bool := mBind a fun c => match c with
  | true => b
  | false => mRet false
def mOr (a b : Mo Bool) : Mo Bool := mBind a fun c => match c with
  | true => mRet true
  | false => b
def mNot (a : Mo Bool) : Mo Bool := mBind a fun c => mRet (!c)
theorem ew_and1 {a : Expr} {pos : Pos} {f : Mo Bool} (h : ET X E a f) : EW X E (.BoolOp .And [a] pos) f := let ⟨t, p, q⟩ := h; ⟨t, pw_and1 p, q⟩
theorem ew_or1 {a : Expr} {pos : Pos} {f : Mo Bool} (h : ET X E a f) : EW X E (.BoolOp .Or [a] pos) f := let ⟨t, p, q⟩ := h; ⟨t, pw_or1 p, q⟩
theorem ew_and {a b : Expr} {rest : List Expr} {pos : Pos} {f g : Mo Bool} (h : ET X E a f) (hb : EW X E (.BoolOp .And (b :: rest) pos) g) : EW X E (.BoolOp .And (a :: b :: rest) pos) (mAnd f g) := by
  obtain ⟨t, p, q⟩ := h
  obtain ⟨t2, p2, q2⟩ := hb
  refine ⟨_, pw_and p p2, fun G ρ σ H Q j h => q G ρ σ H _ j (Post.imp h fun G1 ρ1 x H1 a e1 r1 h1 => ?_)⟩
  subst r1
  cases x with
  | true => exact (q2 G1 ρ1 σ H1 Q e1.j h1 : _)
  | false => exact (h1 G1 false H1 e1.j.refl rfl : _)
theorem ew_or {a b : Expr} {rest : List Expr} {pos : Pos} {f g : Mo Bool} (h : ET X E a f) (hb : EW X E (.BoolOp .Or (b :: rest) pos) g) : EW X E (.BoolOp .Or (a :: b :: rest) pos) (mOr f g) := by
  obtain ⟨t, p, q⟩ := h
  obtain ⟨t2, p2, q2⟩ := hb
  refine ⟨_, pw_or p p2, fun G ρ σ H Q j h => q G ρ σ H _ j (Post.imp h fun G1 ρ1 x H1 a e1 r1 h1 => ?_)⟩
  subst r1
  cases x with
  | false => exact (q2 G1 ρ1 σ H1 Q e1.j h1 : _)
  | true => exact (h1 G1 true H1 e1.j.refl rfl : _)
theorem EW.et {e : Expr} {f : Mo Bool} (h : EW X E e f) : ET X E e f := let ⟨t, p, q⟩ := h; ⟨t, p.pt, q⟩
theorem et_not {a : Expr} {pos : Pos} {f : Mo Bool} (h : ET X E a f) : ET X E (.UnaryOp .Not a pos) (mNot f) := by
  obtain ⟨t, p, q⟩ := h
  refine ⟨_, pt_not p, fun G ρ σ H Q j h => q G ρ σ H _ j (Post.imp h fun G1 ρ1 x H1 a e1 r1 h1 => ?_)⟩
  subst r1
  exact h1 G1 _ H1 e1.j.refl rfl
/-- .. as values, all of them bools -/
def mAndV (a b : Mo D) : Mo D := mBind (mTest a) fun c => match c with
  | true => b
  | false => mRet (.bool false)
def mOrV (a b : Mo D) : Mo D := mBind (mTest a) fun c => match c with
  | true => mRet (.bool true)
  | false => b
def mNotV (a : Mo D) : Mo D := mBind (mTest a) fun c => mRet (.bool (!c))
theorem ev_one {a : Expr} {op : BoolOp} {pos : Pos} {f : Mo D} (h : EV X E a f) : EV X E (.BoolOp op [a] pos) f := let ⟨t, p, q⟩ := h; ⟨t, pe_one p, q⟩
theorem ev_and {a b : Expr} {rest : List Expr} {pos : Pos} {f g : Mo D} (h : EV X E a f) (hb : EV X E (.BoolOp .And (b :: rest) pos) g) : EV X E (.BoolOp .And (a :: b :: rest) pos) (mAndV f g) := by
  obtain ⟨t, p, q⟩ := h
  obtain ⟨t2, p2, q2⟩ := hb
  refine ⟨_, pe_and p p2, fun G ρ σ H Q j h => ?_⟩
  refine test_sem q G ρ σ H (fun c H1 => if c = true then t2 σ H1 Q else Q (.bl false) H1) j (Post.imp h fun G1 ρ1 x H1 a e1 r1 h1 => ?_)
  subst r1
  cases x with
  | true => exact (q2 G1 ρ1 σ H1 Q e1.j h1 : _)
  | false => exact (h1 G1 _ H1 e1.j.refl (.bl false) : _)
theorem ev_or {a b : Expr} {rest : List Expr} {pos : Pos} {f g : Mo D} (h : EV X E a f) (hb : EV X E (.BoolOp .Or (b :: rest) pos) g) : EV X E (.BoolOp .Or (a :: b :: rest) pos) (mOrV f g) := by
  obtain ⟨t, p, q⟩ := h
  obtain ⟨t2, p2, q2⟩ := hb
  refine ⟨_, pe_or p p2, fun G ρ σ H Q j h => ?_⟩
  refine test_sem q G ρ σ H (fun c H1 => if c = true then Q (.bl true) H1 else t2 σ H1 Q) j (Post.imp h fun G1 ρ1 x H1 a e1 r1 h1 => ?_)
  subst r1
  cases x with
  | false => exact (q2 G1 ρ1 σ H1 Q e1.j h1 : _)
  | true => exact (h1 G1 _ H1 e1.j.refl (.bl true) : _)
theorem ev_not {a : Expr} {pos : Pos} {f : Mo D} (h : EV X E a f) : EV X E (.UnaryOp .Not a pos) (mNotV f) := by
  obtain ⟨t, p, q⟩ := h
  refine ⟨_, pe_not p, fun G ρ σ H Q j h => ?_⟩
  refine test_sem q G ρ σ H (fun c H1 => Q (.bl (!c)) H1) j (Post.imp h fun G1 ρ1 x H1 a e1 r1 h1 => ?_)
  subst r1
  exact h1 G1 _ H1 e1.j.refl (.bl _)
def mIf (c : Mo Bool) (a b : Mo D) : Mo D := mBind c fun c => match c with
  | true => a
  | false => b
theorem ev_if {c a b : Expr} {pos : Pos} {fc : Mo Bool} {fa fb : Mo D} (hc : ET X E c fc) (ha : EV X E a fa) (hb : EV X E b fb) : EV X E (.IfExp c a b pos) (mIf fc fa fb) := by
  obtain ⟨t, p, q⟩ := hc
  obtain ⟨ta, pa, qa⟩ := ha
  obtain ⟨tb, pb, qb⟩ := hb
  refine ⟨_, pe_ifExp p pa pb, fun G ρ σ H Q j h => q G ρ σ H _ j (Post.imp h fun G1 ρ1 x H1 a e1 r1 h1 => ?_)⟩
  subst r1
  cases x with
  | true => exact (qa G1 ρ1 σ H1 Q e1.j h1 : _)
  | false => exact (qb G1 ρ1 σ H1 Q e1.j h1 : _)
end
end HB
namespace HB
open PySem L2
section
variable {X : Cx} {E : XK}
/-! ### arguments -/
def mNil : Mo (List D) := mRet []
def mCons (a : Mo D) (r : Mo (List D)) : Mo (List D) := mBind a fun x => mBind r fun xs => mRet (x :: xs)
def itemsD : D → Option (List D)
  | .list ds => some ds
  | .tuple ds => some ds
  | .dict [(.none, .list ds)] => some ds
  | _ => none
def mStar (a : Mo D) (r : Mo (List D)) : Mo (List D) := mBind a fun x => mBind (mLift (itemsD x)) fun ys => mBind r fun xs => mRet (ys ++ xs)
theorem Rp.items {K : PySem.W.Frag} {G : Hp} {v : V} {d : D} {ds : List D} (r : Rp K G v d) (h : itemsD d = some ds) : ∃ p xs, v = .ref p ∧ (SqT K G p xs ∨ SqL K G p xs) ∧ RpAll K G xs ds := by
  cases r with
  | lst h1 h2 => cases h; exact ⟨_, _, rfl, .inr (.of h1), h2⟩
  | tup h1 h2 => cases h; exact ⟨_, _, rfl, .inl h1, h2⟩
  | frz h1 h2 => cases h; exact ⟨_, _, rfl, .inr h1, h2⟩
  | obj h1 h2 => cases h
  | _ => cases h
theorem ea_nil : EA X E [] mNil := ⟨_, pa_nil, fun G ρ σ H Q j h => h G _ H j.refl .nil⟩
theorem ea_cons {e : Expr} {es : List Expr} {f : Mo D} {g : Mo (List D)} (h : EV X E e f) (hr : EA X E es g) (hs : starEach (e :: es) X.env = (false, eval e X.env) :: starEach es X.env := by rfl) : EA X E (e :: es) (mCons f g) := by
  obtain ⟨t, p, q⟩ := h
  obtain ⟨t2, p2, q2⟩ := hr
  refine ⟨_, pa_cons p p2 hs, fun G ρ σ H Q j h => q G ρ σ H _ j (Post.imp h fun G1 ρ1 x H1 a e1 r1 h1 => ?_)⟩
  refine q2 G1 ρ1 σ H1 _ e1.j (Post.imp h1 fun G2 ρ2 y H2 b e2 r2 h2 => ?_)
  exact h2 G2 _ H2 e2.j.refl (.cons (r1.mono e2.g) r2)
theorem sq_mono {K : PySem.W.Frag} {H H' : Hp} {a : Addr} {xs : List V} (s : Same H H') (h : SqT K H a xs ∨ SqL K H a xs) : SqT K H' a xs ∨ SqL K H' a xs := h.elim (fun z => .inl (sqT_mono s z)) fun z => .inr (s.seq z)
theorem ea_star {e : Expr} {es : List Expr} {f : Mo D} {g : Mo (List D)} {sp : Pos} (h : EV X E e f) (hr : EA X E es g) (hs : starEach (.Starred e sp :: es) X.env = (true, eval e X.env) :: starEach es X.env := by rfl) : EA X E (.Starred e sp :: es) (mStar f g) := by
  obtain ⟨t, p, q⟩ := h
  obtain ⟨t2, p2, q2⟩ := hr
  refine ⟨_, StX.pa_star p p2 hs, fun G ρ σ H Q j h => q G ρ σ H _ j (Post.imp h fun G1 ρ1 x H1 a e1 r1 h1 => ?_)⟩
  have h1' : Post X.K E (RpAll X.K) G1 ρ1 σ H1 Q (mBind (mLift (itemsD a)) (fun ys => mBind g fun xs => mRet (ys ++ xs)) ρ1) := h1
  unfold mBind mLift at h1'
  cases hi : itemsD a with
  | none => rw [hi] at h1'; exact h1'.elim
  | some ys =>
    rw [hi] at h1'
    obtain ⟨p0, xs0, rfl, s0, r0⟩ := r1.items hi
    refine ⟨p0, xs0, rfl, sq_mono e1.j.sub s0, ?_⟩
    refine q2 G1 ρ1 σ H1 _ e1.j (Post.imp (f := fun xs => mRet (ys ++ xs)) h1' fun G2 ρ2 y H2 b e2 r2 h2 => ?_)
    exact h2 G2 _ H2 e2.j.refl ((r0.mono e2.g).append r2)
/-! ### displays -/
def sizeOk {α : Type} (xs : List α) : Bool := decide (xs.length ≤ 1000000)
theorem line_of {n : Nat} (h : n ≤ 1000000) : n ≤ sizeLine := Nat.le_trans h (by decide)
def mSized (f : Mo (List D)) : Mo (List D) := mBind f fun ds => mLift (if sizeOk ds = true then some ds else none)
def mTup (f : Mo (List D)) : Mo D := mBind f fun ds => mLift (if sizeOk ds = true then some (.tuple ds) else none)
theorem sized {α : Type} {ds : List α} {β : Type} {b c : β} (h : (if sizeOk ds = true then some b else none) = some c) : ds.length ≤ 1000000 ∧ b = c := by
  split at h
  · rename_i q
    exact ⟨of_decide_eq_true q, Option.some.inj h⟩
  · cases h
theorem ev_tup {es : List Expr} {f : Mo (List D)} {k : Nat} {pos : Pos} (h : EA X E es f) : EV X E (.Tuple es k pos) (mTup f) := by
  obtain ⟨t, p, q⟩ := h
  refine ⟨_, pe_tup p, fun G ρ σ H Q j h => q G ρ σ H _ j (Post.imp h fun G1 ρ1 xs H1 ds e1 r1 h1 => ?_)⟩
  obtain ⟨c, hc, k⟩ := Post.lift (ρ' := ρ1) h1
  obtain ⟨h3, rfl⟩ := sized hc
  refine ⟨by rw [r1.length]; exact line_of h3, fun p hp => ?_⟩
  have px : PX G1 H1 _ _ := .alloc e1.j.sub hp (.tup xs)
  exact k _ _ _ (e1.j.ex px) (.tup (.of upd_same) (r1.mono px.g))
/-- a new list comes -/
theorem new_list {K : PySem.W.Frag} {G H : Hp} {ρ : En} {σ : St} (j : J K G ρ σ H) {p : Addr} (hp : H p = none) {xs : List V} {ds : List D} (r : RpAll K G xs ds) : Ex K G ρ σ H G ρ σ (upd H p (.lst xs)) := by
  have sh : Same H (upd H p (.lst xs)) := same_upd hp
  refine ⟨⟨j.sub.trans sh, j.len, j.pur, fun i s ds e hl => ?_, j.dis⟩, .refl _, fun b hb => .inl hb, fun b o e _ => sh _ _ e, fun b hb => .inl hb, fun b hb => sh.free hb, fun i ds h => ⟨⟨ds, h⟩, rfl⟩⟩
  obtain ⟨a, vs, h1, h2, h3, h4⟩ := j.own i s ds e hl
  exact ⟨a, vs, h1, sh _ _ h2, h3, h4⟩
theorem Post.impN {K : PySem.W.Frag} {G H : Hp} {ρ : En} {σ : St} {Q : VK} {γ δ : Type} {R' : Hp → δ → γ → Prop} {Q' : δ → Hp → Prop} {m : Mo γ} {f : γ → Mo (List D)} (h : PostN K E G ρ σ H Q (mBind m f ρ))
    (k : ∀ G1 ρ1 v H1 a, Ex K G ρ σ H G1 ρ1 σ H1 → R' G1 v a → PostN K E G1 ρ1 σ H1 Q (f a ρ1) → Q' v H1) : Post K E R' G ρ σ H Q' (m ρ) := by
  unfold mBind at h
  cases q : m ρ with
  | none => rw [q] at h; exact h
  | some r =>
    rw [q] at h
    cases r with
    | error x => exact h
    | ok p =>
      obtain ⟨ρ', a⟩ := p
      refine fun G' v H' z r => k G' ρ' v H' a z r ?_
      have h2 : PostN K E G ρ σ H Q (f a ρ') := h
      match hh : f a ρ', h2 with
      | some (.error x), h2 => exact fun C dx H' y => h2 C dx H' (XP.trans z y)
      | some (.ok (ρ2, ds)), h2 =>
        refine fun G2 v2 H2 y r2 => h2 G2 v2 H2 (z.trans y) ?_
        obtain ⟨a2, vs2, e1, e2, e3, e4, e5, e6⟩ := r2
        exact ⟨a2, vs2, e1, z.dom _ e2, e3, e4, e5, e6⟩
theorem Post.liftN {K : PySem.W.Frag} {G H : Hp} {ρ : En} {σ : St} {Q : VK} {o : Option (List D)} (h : PostN K E G ρ σ H Q (mLift o ρ)) : ∃ a, o = some a ∧ ∀ G' v H', Ex K G ρ σ H G' ρ σ H' → RpN K H H' G' ρ σ v a → Q v H' := by
  cases o with
  | none => exact False.elim h
  | some a => exact ⟨a, rfl, h⟩
theorem J.free {K : PySem.W.Frag} {G H : Hp} {ρ : En} {σ : St} (j : J K G ρ σ H) {p : Addr} (hp : H p = none) : G p = none := j.sub.free hp
theorem J.nown {K : PySem.W.Frag} {G H : Hp} {ρ : En} {σ : St} (j : J K G ρ σ H) {p : Addr} (hp : H p = none) : ¬ Ownd ρ σ p := fun z => by
  obtain ⟨ws, z1, _⟩ := j.ownd z
  rw [hp] at z1; cases z1
theorem en_lst {es : List Expr} {f : Mo (List D)} {pos : Pos} (h : EA X E es f) : EN X E (.List es pos) (mSized f) := by
  obtain ⟨t, p, q⟩ := h
  refine ⟨_, pe_lst p, fun G ρ σ H Q j h => q G ρ σ H _ j (Post.impN h fun G1 ρ1 xs H1 ds e1 r1 h1 => ?_)⟩
  obtain ⟨c, hc, k⟩ := Post.liftN h1
  obtain ⟨h3, rfl⟩ := sized hc
  refine ⟨by rw [r1.length]; exact line_of h3, fun p hp => ?_⟩
  exact k _ _ _ (new_list e1.j hp r1) ⟨p, xs, rfl, hp, e1.j.free hp, upd_same, e1.j.nown hp, r1⟩
/-- a new list, as data -/
def mList (f : Mo (List D)) : Mo D := mBind f fun ds => mRet (.list ds)
/-- from now on it is data: nobody changes it -/
theorem Ex.still {K : PySem.W.Frag} {G H G' H' : Hp} {ρ ρ' : En} {σ : St} (e : Ex K G ρ σ H G' ρ' σ H') {a : Addr} {vs : List V} (h1 : H a = none) (h2 : G' a = none) (h3 : H' a = some (.lst vs)) (no : ¬ Ownd ρ' σ a) : Ex K G ρ σ H (upd G' a (.lst vs)) ρ' σ H' := by
  have sg : Same G' (upd G' a (.lst vs)) := same_upd h2
  refine ⟨⟨fun b o q => ?_, e.j.len, fun i d q => ?_, fun i s es q hl => ?_, e.j.dis⟩, e.g.trans sg, fun b hb => ?_, e.kept, e.ow, e.dom, e.bx⟩
  · by_cases hb : b = a
    · subst hb; rw [upd_same] at q; rw [← q]; exact h3
    · rw [upd_ne hb] at q; exact e.j.sub _ _ q
  · obtain ⟨v, q1, q2⟩ := e.j.pur i d q
    exact ⟨v, q1, q2.mono sg⟩
  · obtain ⟨a', ws, q1, q2, q3, q4⟩ := e.j.own i s es q hl
    have ne : a' ≠ a := fun z => by
      subst z
      exact no ⟨i, s, es, q, hl, q1⟩
    exact ⟨a', ws, q1, q2, by rw [upd_ne ne]; exact q3, q4.mono sg⟩
  · by_cases z : b = a
    · subst z; exact .inr (.inl h1)
    · rw [upd_ne z] at hb; exact e.new b hb
theorem EN.ev {e : Expr} {f : Mo (List D)} (h : EN X E e f) : EV X E e (mList f) := by
  obtain ⟨t, p, q⟩ := h
  refine ⟨t, p, fun G ρ σ H Q j h => q G ρ σ H Q j ?_⟩
  unfold mList mBind at h
  cases hh : f ρ with
  | none => rw [hh] at h; exact h
  | some r =>
    rw [hh] at h
    cases r with
    | error x => exact h
    | ok pr =>
      obtain ⟨ρ', ds⟩ := pr
      intro G' v H' e r
      obtain ⟨a, vs, rfl, h1, h2, h3, no, h4⟩ := r
      exact h (upd G' a (.lst vs)) _ H' (e.still h1 h2 h3 no) (.lst upd_same (h4.mono (same_upd h2)))
/-! ### indices, slices, fields -/
def ixD : D → D → Option D
  | .list ds, .int i => atI ds i
  | .tuple ds, .int i => atI ds i
  | .dict [(.none, .list ds)], .int i => atI ds i
  | .str z, .int i => if z.length ≤ 1000000 then (atI z.cps.toList i).map fun c => .str ⟨#[c]⟩ else none
  | _, _ => none
theorem RpAll.atI {K : PySem.W.Frag} {G : Hp} {vs : List V} {ds : List D} {i : Int} {d : D} (r : RpAll K G vs ds) (h : atI ds i = some d) : ∃ v, L2.atI vs i = some v ∧ Rp K G v d := by
  unfold L2.atI at h ⊢
  rw [r.length]
  cases q : ixN ds.length i with
  | none => rw [q] at h; cases h
  | some j =>
    rw [q] at h
    exact r.get h
theorem ix_sem {G H : Hp} {x y : V} {a b c : D} {Q : VK} (s : Same G H) (hx : Rp X.K G x a) (hy : Rp X.K G y b) (h : ixD a b = some c) (k : ∀ v, Rp X.K G v c → Q v H) : rIx X.K x y H Q := by
  cases hy with
  | int i =>
    cases hx with
    | lst h1 h2 =>
      obtain ⟨v, q1, q2⟩ := h2.atI h
      exact .inl ⟨_, _, _, _, rfl, rfl, .of (s _ _ h1), q1, k _ q2⟩
    | tup h1 h2 =>
      obtain ⟨v, q1, q2⟩ := h2.atI h
      exact .inr (.inl ⟨_, _, _, _, rfl, rfl, sqT_mono s h1, q1, k _ q2⟩)
    | frz h1 h2 =>
      obtain ⟨v, q1, q2⟩ := h2.atI h
      exact .inl ⟨_, _, _, _, rfl, rfl, s.seq h1, q1, k _ q2⟩
    | str z =>
      have h' : (if z.length ≤ 1000000 then (L2.atI z.cps.toList i).map fun c => PyData.str ⟨#[c]⟩ else none) = some c := h
      split at h'
      · rename_i hz
        cases q : L2.atI z.cps.toList i with
        | none => rw [q] at h'; cases h'
        | some cc =>
          rw [q] at h'
          cases h'
          exact .inr (.inr ⟨_, _, _, rfl, rfl, line_of hz, q, k _ (.str _)⟩)
      · cases h'
    | obj h1 h2 => cases h
    | _ => cases h
  | _ => cases hx <;> cases h
theorem ev_ix {a b : Expr} {pos : Pos} {fa fb : Mo D} (ha : EV X E a fa) (hb : EV X E b fb) (hs : PlainIx b := by exact fun _ _ => rfl) : EV X E (.Subscript a b pos) (mOp ixD fa fb) := by
  obtain ⟨ta, pa, qa⟩ := ha
  obtain ⟨tb, pb, qb⟩ := hb
  refine ⟨_, pe_ix ix_seq pa pb hs, bin_sem (sem := fun _ _ => pure .none) qa qb fun G H x y a b c Q s hx hy h k => ix_sem s hx hy h fun v r => k G v H (.refl s) r⟩
end
end HB
namespace HB
open PySem L2
/-! ### calls of defs -/
abbrev Fn := List D → Option (Except Exn D)
def PostF (K : PySem.W.Frag) (E : XK) (G H : Hp) (Q : VK) : Option (Except Exn D) → Prop
  | none => False
  | some (.error x) => ∀ C dx H', XP K G [] [] H x C dx H' → E C dx H'
  | some (.ok d) => ∀ G' v H', PX G H G' H' → Rp K G' v d → Q v H'
def spP (K : PySem.W.Frag) (n : Nat) (F : Fn) : Sp := fun vs H Q E => ∃ G ds, Same G H ∧ RpAll K G vs ds ∧ ds.length = n ∧ PostF K E G H Q (F ds)
/-- a def of the module and what it is worth -/
structure FnE (P : Program) (w : World) (K : PySem.W.Frag) (mg : Str → Option Value) (base : Heap) (k : Nat) (x : Str) (ps : List Str) (F : Fn) : Prop where
  ex : ∃ fd, FnOk P w K mg base (L2.CX P w) k (He.ga K x) fd ps (spP K ps.length F) ∧ Binds K fd ps []
  kp : PySem.W.keepIn K (.ref (He.ga K x)) = true
  gl : mg x = some (.ref (He.ga K x))
  ln : ∀ ds, F ds ≠ none → ds.length = ps.length
def mCall (F : Fn) (a : Mo (List D)) : Mo D := mBind a fun ds ρ => match F ds with
  | none => none
  | some (.error x) => some (.error x)
  | some (.ok d) => some (.ok (ρ, d))
theorem XP.of0 {K : PySem.W.Frag} {G H : Hp} {ρ : En} {σ : St} {x : Exn} {C : Value} {dx : Option Addr} {H' : Hp} (h : XP K G [] [] H x C dx H') : XP K G ρ σ H x C dx H' := by
  obtain ⟨h1, G', h2, h3, h4, h5, h6, h7⟩ := h
  have no : ∀ b, ¬ Ownd [] [] b := fun b ⟨i, s, ds, z, _⟩ => by simp at z
  refine ⟨h1, G', h2, h3, fun b hb => ?_, fun b o q _ => h5 b o q (no b), h6, h7⟩
  rcases h4 b hb with z | z | z
  · exact .inl z
  · exact .inr (.inl z)
  · exact absurd z (no b)
section
variable {X : Cx} {E : XK}
theorem call_sem {F : Fn} {n : Nat} {t : TA} {f : Mo (List D)} (q : ∀ G ρ σ H Q, J X.K G ρ σ H → Post X.K E (RpAll X.K) G ρ σ H Q (f ρ) → t σ H Q) (hl : ∀ ds, F ds ≠ none → ds.length = n) :
    ∀ G ρ σ H Q, J X.K G ρ σ H → Post X.K E (Rp X.K) G ρ σ H Q (mCall F f ρ) → tCall (spP X.K n F) [] E t σ H Q := by
  intro G ρ σ H Q j h
  refine q G ρ σ H _ j (Post.imp h fun G1 ρ1 vs H1 ds e1 r1 h1 => ?_)
  show spP X.K n F (vs ++ []) H1 Q E
  rw [List.append_nil]
  have h1' : Post X.K E (Rp X.K) G1 ρ1 σ H1 Q (match F ds with
    | none => none
    | some (.error x) => some (.error x)
    | some (.ok d) => some (.ok (ρ1, d))) := h1
  cases hF : F ds with
  | none => rw [hF] at h1'; exact h1'.elim
  | some r =>
    refine ⟨G1, ds, e1.j.sub, r1, hl ds (by rw [hF]; simp), ?_⟩
    rw [hF] at h1' ⊢
    cases r with
    | error x => exact fun C dx H' z => h1' C dx H' z.of0
    | ok d => exact fun G' v H' p r => h1' G' v H' (e1.j.ex p) r
theorem ev_call {k : Nat} {x : Str} {ps : List Str} {F : Fn} {p pos : Pos} {e : Expr} {es : List Expr} {f : Mo (List D)} (hF : FnE X.prog X.w X.K X.mg X.base k x ps F) (hr : Room k X.A) (hx : Passes (L2.CX X.prog X.w) X E)
    (ha : EA X E (e :: es) f) (hg : Gl X x := by rfl) (hdb : (x == ("__debug__" : Str)) = false := by decide) (he : starEach (e :: es) X.env = (false, eval e X.env) :: starEach es X.env := by rfl)
    (hpl : (backTo pos (starEach es X.env)).any (·.1) = false := by rfl) : EV X E (.Call (.Name x p) (e :: es) [] pos) (mCall F f) := by
  obtain ⟨⟨fd, h1, h2⟩, kp, gl, hl⟩ := hF
  obtain ⟨t, pt, q⟩ := ha
  exact ⟨_, pe_call h1 hr hg gl kp h2 .nil hx pt hdb he hpl, call_sem q hl⟩
theorem ev_call0 {k : Nat} {x : Str} {F : Fn} {p pos : Pos} (hF : FnE X.prog X.w X.K X.mg X.base k x [] F) (hr : Room k X.A) (hx : Passes (L2.CX X.prog X.w) X E)
    (hg : Gl X x := by rfl) (hdb : (x == ("__debug__" : Str)) = false := by decide) : EV X E (.Call (.Name x p) [] [] pos) (mCall F mNil) := by
  obtain ⟨⟨fd, h1, h2⟩, kp, gl, hl⟩ := hF
  exact ⟨_, pe_call0 h1 hr hg gl kp h2 .nil hx hdb, call_sem (fun G ρ σ H Q j h => h G _ H j.refl .nil) hl⟩
/-! ### builtins by values -/
def DCall (X : Cx) (fv : Value) (f : List D → Option D) : Prop := ∃ r, CallR X fv r ∧ ∀ G H xs ds c Q, Same G H → RpAll X.K G xs ds → f ds = some c → (∀ G' v H', PX G H G' H' → Rp X.K G' v c → Q v H') → r xs H Q
def mBuilt (f : List D → Option D) (a : Mo (List D)) : Mo D := mBind a fun ds => mLift (f ds)
theorem built_sem {t : TA} {g : Mo (List D)} {r : List V → Hp → VK → Prop} {f : List D → Option D} (q : ∀ G ρ σ H Q, J X.K G ρ σ H → Post X.K E (RpAll X.K) G ρ σ H Q (g ρ) → t σ H Q)
    (hr : ∀ G H xs ds c Q, Same G H → RpAll X.K G xs ds → f ds = some c → (∀ G' v H', PX G H G' H' → Rp X.K G' v c → Q v H') → r xs H Q) :
    ∀ G ρ σ H Q, J X.K G ρ σ H → Post X.K E (Rp X.K) G ρ σ H Q (mBuilt f g ρ) → tCB r t σ H Q := by
  intro G ρ σ H Q j h
  refine q G ρ σ H _ j (Post.imp h fun G1 ρ1 vs H1 ds e1 r1 h1 => ?_)
  obtain ⟨c, hc, k⟩ := Post.lift (ρ' := ρ1) h1
  exact hr G1 H1 vs ds c Q e1.j.sub r1 hc fun G' v H' p q => k G' v H' (e1.j.ex p) q
theorem ev_callB {id : String} {f : List D → Option D} {x : Str} {p pos : Pos} {e : Expr} {es : List Expr} {g : Mo (List D)} (hc : DCall X (.builtin id) f) (hm : X.mg x = none) (hv : bootBuiltins x = some (.builtin id)) (ha : EA X E (e :: es) g) (hg : Gl X x := by rfl)
    (hn : x ≠ "__name__" := by decide) (hdb : (x == ("__debug__" : Str)) = false := by decide) (he : starEach (e :: es) X.env = (false, eval e X.env) :: starEach es X.env := by rfl) (hpl : (backTo pos (starEach es X.env)).any (·.1) = false := by rfl) : EV X E (.Call (.Name x p) (e :: es) [] pos) (mBuilt f g) := by
  obtain ⟨r, h1, h2⟩ := hc
  obtain ⟨t, pt, q⟩ := ha
  exact ⟨_, pe_callB h1 hg hm hv pt hn hdb he hpl, built_sem q h2⟩
theorem ev_callTy {T : String} {f : List D → Option D} {x : Str} {p pos : Pos} {e : Expr} {es : List Expr} {g : Mo (List D)} (hc : DCall X (.type T) f) (hm : X.mg x = none) (hv : bootBuiltins x = some (.type T)) (ha : EA X E (e :: es) g) (hg : Gl X x := by rfl)
    (hn : x ≠ "__name__" := by decide) (hdb : (x == ("__debug__" : Str)) = false := by decide) (he : starEach (e :: es) X.env = (false, eval e X.env) :: starEach es X.env := by rfl) (hpl : (backTo pos (starEach es X.env)).any (·.1) = false := by rfl) : EV X E (.Call (.Name x p) (e :: es) [] pos) (mBuilt f g) := by
  obtain ⟨r, h1, h2⟩ := hc
  obtain ⟨t, pt, q⟩ := ha
  exact ⟨_, pe_callTy h1 hg hm hv pt hn hdb he hpl, built_sem q h2⟩
/-! ### statements -/
def sNext : Mo Fl := mRet .nx
def sSeq (a b : Mo Fl) : Mo Fl := mBind a fun f => match f with
  | .nx => b
  | .rt d => mRet (.rt d)
  | .bk => mRet .bk
  | .ct => mRet .ct
theorem ss_nil : SVs X E [] sNext := ⟨_, pss_nil, fun G ρ σ H De j h => h G σ H j.refl⟩
theorem PostS.seq {K : PySem.W.Frag} {G H : Hp} {ρ : En} {σ : St} {De : Ends} {a b : Mo Fl} {u : TS} (h : PostS K E G ρ σ H De (sSeq a b ρ)) (k : ∀ G1 ρ1 σ1 H1, J K G1 ρ1 σ1 H1 → PostS K E G1 ρ1 σ1 H1 De (b ρ1) → u De σ1 H1) : PostS K E G ρ σ H { De with nx := u De } (a ρ) := by
  unfold sSeq mBind at h
  cases q : a ρ with
  | none => rw [q] at h; exact h
  | some r =>
    rw [q] at h
    cases r with
    | error x => exact h
    | ok p =>
      obtain ⟨ρ', f⟩ := p
      cases f with
      | nx => exact fun G' σ' H' z => k G' ρ' σ' H' z.j (PostS.ex z h)
      | rt d => exact h
      | bk => exact h
      | ct => exact h
theorem ss_cons {s : Stmt} {rest : List Stmt} {a b : Mo Fl} (h1 : SV X E s a) (h2 : SVs X E rest b) : SVs X E (s :: rest) (sSeq a b) := by
  obtain ⟨t, p, q⟩ := h1
  obtain ⟨u, p2, q2⟩ := h2
  exact ⟨_, pss_cons p p2, fun G ρ σ H De j h => q G ρ σ H _ j (PostS.seq h fun G1 ρ1 σ1 H1 j1 k => q2 G1 ρ1 σ1 H1 De j1 k)⟩
theorem ss_one {s : Stmt} {a : Mo Fl} (h1 : SV X E s a) : SVs X E [s] a := let ⟨t, p, q⟩ := h1; ⟨t, pss_one p, q⟩
def sNever : Mo Fl := fun _ => none
theorem s_never {s : Stmt} : SV X E s sNever := ⟨_, ps_never, fun _ _ _ _ _ _ h => h.elim⟩
theorem ss_never {s : List Stmt} : SVs X E s sNever := ⟨_, pss_never, fun _ _ _ _ _ _ h => h.elim⟩
theorem s_pass {pos : Pos} : SV X E (.Pass pos) sNext := ⟨_, ps_pass, fun G ρ σ H De j h => h G σ H j.refl⟩
theorem s_break {pos : Pos} : SV X E (.Break pos) (mRet .bk) := ⟨_, ps_break, fun G ρ σ H De j h => h G σ H j.refl⟩
theorem s_continue {pos : Pos} : SV X E (.Continue pos) (mRet .ct) := ⟨_, ps_continue, fun G ρ σ H De j h => h G σ H j.refl⟩
def sRet (f : Mo D) : Mo Fl := mBind f fun d => mRet (.rt d)
theorem s_ret {e : Expr} {f : Mo D} {pos : Pos} (h : EV X E e f) : SV X E (.Return (some e) pos) (sRet f) := by
  obtain ⟨t, p, q⟩ := h
  exact ⟨_, ps_ret p, fun G ρ σ H De j h => q G ρ σ H _ j (PostS.imp h fun G1 ρ1 v H1 a e1 r1 h1 => h1 G1 σ v H1 e1.j.refl r1)⟩
def sDrop (f : Mo D) : Mo Fl := mBind f fun _ => mRet .nx
theorem s_expr {e : Expr} {f : Mo D} {pos : Pos} (h : EV X E e f) (hs : swapsWith e none pos.line X.env = pure false := by rfl) : SV X E (.Expr e pos) (sDrop f) := by
  obtain ⟨t, p, q⟩ := h
  exact ⟨_, ps_expr p hs, fun G ρ σ H De j h => q G ρ σ H _ j (PostS.imp h fun G1 ρ1 v H1 a e1 r1 h1 => h1 G1 σ H1 e1.j.refl)⟩
def sIf (c : Mo Bool) (a b : Mo Fl) : Mo Fl := mBind c fun c => match c with
  | true => a
  | false => b
theorem s_if {c : Expr} {a b : List Stmt} {pos : Pos} {fc : Mo Bool} {fa fb : Mo Fl} (hc : ET X E c fc) (ha : SVs X E a fa) (hb : SVs X E b fb) : SV X E (.If c a b pos) (sIf fc fa fb) := by
  obtain ⟨t, p, q⟩ := hc
  obtain ⟨ta, pa, qa⟩ := ha
  obtain ⟨tb, pb, qb⟩ := hb
  refine ⟨_, ps_if p pa pb, fun G ρ σ H De j h => q G ρ σ H _ j (PostS.imp h fun G1 ρ1 x H1 a e1 r1 h1 => ?_)⟩
  subst r1
  cases x with
  | true => exact (qa G1 ρ1 σ H1 De e1.j h1 : _)
  | false => exact (qb G1 ρ1 σ H1 De e1.j h1 : _)
/-! ### a name is given data -/
theorem getElem?_set_cases {α : Type} {l : List α} {i k : Nat} {a b : α} (h : (l.set i a)[k]? = some b) : (k = i ∧ b = a) ∨ (k ≠ i ∧ l[k]? = some b) := by
  by_cases hk : k = i
  · subst hk
    by_cases hl : k < l.length
    · rw [List.getElem?_set_self hl] at h
      exact .inl ⟨rfl, (Option.some.inj h).symm⟩
    · rw [List.getElem?_eq_none (by rw [List.length_set]; omega)] at h
      cases h
  · rw [List.getElem?_set_ne (Ne.symm hk)] at h
    exact .inr ⟨hk, h⟩
theorem Ex.set {K : PySem.W.Frag} {G H : Hp} {ρ : En} {σ : St} (j : J K G ρ σ H) (i : Nat) {v : V} {d : D} (r : Rp K G v d) : Ex K G ρ σ H G (ρ.set i (.pur d)) (σ.set i (some v)) H := by
  have hn : ∀ (k : Nat) (s : Sl) (es : List D), (ρ.set i (.pur d))[k]? = some s → s.ls = some es → k ≠ i ∧ ρ[k]? = some s ∧ (σ.set i (some v))[k]? = σ[k]? := fun k s es q hl => by
    rcases getElem?_set_cases q with ⟨_, z⟩ | ⟨z, q'⟩
    · subst z; cases hl
    · exact ⟨z, q', List.getElem?_set_ne (Ne.symm z)⟩
  refine ⟨⟨j.sub, by rw [List.length_set, List.length_set]; exact j.len, fun k e q => ?_, fun k s es q hl => ?_, fun k l s t es fs b q1 l1 q2 l2 q3 q4 => ?_⟩, .refl _, fun b hb => .inl hb, fun b o q _ => q, fun b hb => ?_, fun _ z => z, fun k es q => ?_⟩
  · rcases getElem?_set_cases q with ⟨rfl, z⟩ | ⟨z, q'⟩
    · cases z
      have hl : k < ρ.length := by
        have := (List.getElem?_eq_some_iff.mp q).1
        rw [List.length_set] at this
        exact this
      exact ⟨v, List.getElem?_set_self (by rw [← j.len]; exact hl), r⟩
    · obtain ⟨u, h1, h2⟩ := j.pur k e q'
      exact ⟨u, by rw [List.getElem?_set_ne (Ne.symm z)]; exact h1, h2⟩
  · obtain ⟨z, q', e⟩ := hn k s es q hl
    rw [e]
    exact j.own k s es q' hl
  · obtain ⟨z1, q1', e1⟩ := hn k s es q1 l1
    obtain ⟨z2, q2', e2⟩ := hn l t fs q2 l2
    rw [e1] at q3
    rw [e2] at q4
    exact j.dis k l s t es fs b q1' l1 q2' l2 q3 q4
  · obtain ⟨k, s, es, q1, hl, q2⟩ := hb
    obtain ⟨z, q', e⟩ := hn k s es q1 hl
    rw [e] at q2
    exact .inl ⟨k, s, es, q', hl, q2⟩
  · obtain ⟨z, q', e⟩ := hn k _ es q rfl
    exact ⟨⟨es, q'⟩, e⟩
theorem Ex.setOwn {K : PySem.W.Frag} {G H G' H' : Hp} {ρ ρ' : En} {σ σ' : St} (e : Ex K G ρ σ H G' ρ' σ' H') (i : Nat) {v : V} {ds : List D} (r : RpN K H H' G' ρ' σ' v ds) : Ex K G ρ σ H G' (ρ'.set i (.own ds)) (σ'.set i (some v)) H' := by
  obtain ⟨a, vs, rfl, h1, h2, h3, no, h4⟩ := r
  have j := e.j
  have hn : ∀ (k : Nat) (s : Sl) (es : List D), (ρ'.set i (.own ds))[k]? = some s → s.ls = some es → (k = i ∧ es = ds ∧ s = .own ds ∧ (σ'.set i (some (.ref a)))[k]? = some (some (.ref a))) ∨ (k ≠ i ∧ ρ'[k]? = some s ∧ (σ'.set i (some (.ref a)))[k]? = σ'[k]?) := fun k s es q hl => by
    rcases getElem?_set_cases q with ⟨z1, z⟩ | ⟨z, q'⟩
    · subst z1
      subst z
      cases hl
      have hl : k < ρ'.length := by
        have := (List.getElem?_eq_some_iff.mp q).1
        rw [List.length_set] at this
        exact this
      exact .inl ⟨rfl, rfl, rfl, List.getElem?_set_self (by rw [← j.len]; exact hl)⟩
    · exact .inr ⟨z, q', List.getElem?_set_ne (Ne.symm z)⟩
  refine ⟨⟨j.sub, by rw [List.length_set, List.length_set]; exact j.len, fun k f q => ?_, fun k s es q hl => ?_, fun k l s t es fs b q1 l1 q2 l2 q3 q4 => ?_⟩, e.g, e.new, e.kept, fun b hb => ?_, e.dom, fun k es q => ?_⟩
  · rcases getElem?_set_cases q with ⟨rfl, z⟩ | ⟨z, q'⟩
    · cases z
    · obtain ⟨u, g1, g2⟩ := j.pur k f q'
      exact ⟨u, by rw [List.getElem?_set_ne (Ne.symm z)]; exact g1, g2⟩
  · rcases hn k s es q hl with ⟨rfl, rfl, _, z⟩ | ⟨z, q', e2⟩
    · exact ⟨a, vs, z, h3, h2, h4⟩
    · rw [e2]
      exact j.own k s es q' hl
  · rcases hn k s es q1 l1 with ⟨rfl, rfl, _, z⟩ | ⟨z, q1', e1⟩
    · rw [z] at q3
      cases q3
      rcases hn l t fs q2 l2 with ⟨rfl, rfl, _, z⟩ | ⟨z, q2', e2⟩
      · rfl
      · rw [e2] at q4
        exact absurd ⟨l, t, fs, q2', l2, q4⟩ no
    · rcases hn l t fs q2 l2 with ⟨rfl, rfl, _, z⟩ | ⟨z, q2', e2⟩
      · rw [z] at q4
        cases q4
        rw [e1] at q3
        exact absurd ⟨k, s, es, q1', l1, q3⟩ no
      · rw [e1] at q3
        rw [e2] at q4
        exact j.dis k l s t es fs b q1' l1 q2' l2 q3 q4
  · obtain ⟨k, s, es, q1, hl, q2⟩ := hb
    rcases hn k s es q1 hl with ⟨rfl, rfl, _, z⟩ | ⟨z, q', e2⟩
    · rw [z] at q2
      cases q2
      exact .inr h1
    · rw [e2] at q2
      exact e.ow b ⟨k, s, es, q', hl, q2⟩
  · rcases hn k _ es q rfl with ⟨_, _, z, _⟩ | ⟨z, q', e2⟩
    · cases z
    · obtain ⟨w1, w2⟩ := e.bx k es q'
      exact ⟨w1, e2.trans w2⟩
def setSl (i : Nat) (s : Sl) : Mo Fl := fun ρ => some (.ok (ρ.set i s, .nx))
def sSet (i : Nat) (f : Mo D) : Mo Fl := mBind f fun d => setSl i (.pur d)
def sOwn (i : Nat) (f : Mo (List D)) : Mo Fl := mBind f fun ds => setSl i (.own ds)
theorem s_set {i : Nat} {x : Str} {e : Expr} {f : Mo D} {pos pos' : Pos} (h : EV X E e f) (hN : X.N.Nodup) (hi : X.N[i]? = some x := by rfl) (hx : Loc X.env.scope x := by first | exact Or.inl rfl | exact Or.inr rfl)
    (hs : swapsWith e (some (.Name x pos')) pos.line X.env = pure false := by rfl) (hf : X.fn x = true ∨ X.env.scope.names.lookup x = some .local := by first | exact .inl rfl | exact .inr rfl | assumption) : SV X E (.Assign [.Name x pos'] e pos) (sSet i f) := by
  obtain ⟨t, p, q⟩ := h
  refine ⟨_, ps_set hN hi hx p hs hf, fun G ρ σ H De j h => q G ρ σ H _ j (PostS.imp h fun G1 ρ1 v H1 a e1 r1 h1 => ?_)⟩
  exact h1 G1 _ H1 (Ex.set e1.j i r1)
theorem s_own {i : Nat} {x : Str} {e : Expr} {f : Mo (List D)} {pos pos' : Pos} (h : EN X E e f) (hN : X.N.Nodup) (hi : X.N[i]? = some x := by rfl) (hx : Loc X.env.scope x := by first | exact Or.inl rfl | exact Or.inr rfl)
    (hs : swapsWith e (some (.Name x pos')) pos.line X.env = pure false := by rfl) (hf : X.fn x = true ∨ X.env.scope.names.lookup x = some .local := by first | exact .inl rfl | exact .inr rfl | assumption) : SV X E (.Assign [.Name x pos'] e pos) (sOwn i f) := by
  obtain ⟨t, p, q⟩ := h
  refine ⟨_, ps_set hN hi hx p hs hf, fun G ρ σ H De j h => q G ρ σ H _ j ?_⟩
  unfold sOwn mBind at h
  cases hh : f ρ with
  | none => rw [hh] at h; exact h
  | some r =>
    rw [hh] at h
    cases r with
    | error x => exact h
    | ok pr =>
      obtain ⟨ρ', ds⟩ := pr
      exact fun G' v H' e r => h G' _ H' (e.setOwn i r)
/-- the end of a def's body -/
def runF (n : Nat) (g : Mo Fl) : Fn := fun ds => match g (ds.map Sl.pur ++ List.replicate (n - ds.length) Sl.no) with
  | none => none
  | some (.error x) => some (.error x)
  | some (.ok (_, .nx)) => some (.ok .none)
  | some (.ok (_, .rt d)) => some (.ok d)
  | some (.ok (_, _)) => none
def guard (n : Nat) (F : Fn) : Fn := fun ds => match Nat.beq ds.length n with
  | true => F ds
  | false => none
end
end HB
namespace HB
open PySem L2
/-! ### a def by its body -/
theorem start_no {N : List Str} {ds : List D} {σ : St} {b : Addr} : ¬ Ownd (ds.map Sl.pur ++ List.replicate (N.length - ds.length) Sl.no) σ b := by
  rintro ⟨i, s, es, h, hl, _⟩
  rw [List.getElem?_append] at h
  split at h
  · rw [List.getElem?_map] at h
    cases q : ds[i]? with
    | none => rw [q] at h; cases h
    | some d => rw [q] at h; cases h; cases hl
  · rw [List.getElem?_replicate] at h
    split at h
    · cases h; cases hl
    · cases h
theorem start_j {K : PySem.W.Frag} {G H : Hp} {N : List Str} {vs : List V} {ds : List D} (s : Same G H) (r : RpAll K G vs ds) : J K G (ds.map Sl.pur ++ List.replicate (N.length - ds.length) Sl.no) (start N vs) H := by
  have hl := r.length
  refine ⟨s, ?_, fun i d h => ?_, fun i s es h hl => absurd hl ?_, fun i k s t ds' es b h hl _ _ _ _ => absurd hl ?_⟩
  · unfold L2.start
    simp only [List.length_append, List.length_map, List.length_replicate]
    omega
  · rw [List.getElem?_append] at h
    split at h
    · rename_i hi
      rw [List.length_map] at hi
      rw [List.getElem?_map] at h
      cases q : ds[i]? with
      | none => rw [q] at h; cases h
      | some e =>
        rw [q] at h
        cases h
        obtain ⟨v, h1, h2⟩ := r.get q
        refine ⟨v, ?_, h2⟩
        unfold L2.start
        rw [List.getElem?_append_left (by rw [List.length_map, hl]; exact hi), List.getElem?_map, h1]
        rfl
    · rw [List.getElem?_replicate] at h
      split at h <;> cases h
  · intro hl
    rw [List.getElem?_append] at h
    split at h
    · rw [List.getElem?_map] at h
      cases q : ds[i]? with
      | none => rw [q] at h; cases h
      | some d => rw [q] at h; cases h; cases hl
    · rw [List.getElem?_replicate] at h
      split at h
      · cases h; cases hl
      · cases h
  · intro hl
    rw [List.getElem?_append] at h
    split at h
    · rw [List.getElem?_map] at h
      cases q : ds[i]? with
      | none => rw [q] at h; cases h
      | some d => rw [q] at h; cases h; cases hl
    · rw [List.getElem?_replicate] at h
      split at h
      · cases h; cases hl
      · cases h
theorem Ex.px {K : PySem.W.Frag} {G H G' H' : Hp} {ρ ρ' : En} {σ σ' : St} (e : Ex K G ρ σ H G' ρ' σ' H') (no : ∀ b, ¬ Ownd ρ σ b) : PX G H G' H' :=
  ⟨fun b o q => e.kept b o q (no b), e.g, e.j.sub, fun b hb => (e.new b hb).elim .inl fun z => z.elim .inr fun z => absurd z (no b)⟩
theorem XP.to0 {K : PySem.W.Frag} {G H : Hp} {ρ : En} {σ : St} {x : Exn} {C : Value} {dx : Option Addr} {H' : Hp} (no : ∀ b, ¬ Ownd ρ σ b) (h : XP K G ρ σ H x C dx H') : XP K G [] [] H x C dx H' := by
  obtain ⟨h1, G', h2, h3, h4, h5, h6, h7⟩ := h
  refine ⟨h1, G', h2, h3, fun b hb => ?_, fun b o q _ => h5 b o q (no b), h6, h7⟩
  rcases h4 b hb with z | z | z
  · exact .inl z
  · exact .inr (.inl z)
  · exact absurd z (no b)
theorem guard_len {n : Nat} {F : Fn} {ds : List D} (h : guard n F ds ≠ none) : ds.length = n := by
  unfold guard at h
  cases q : Nat.beq ds.length n with
  | true => exact Nat.eq_of_beq_eq_true q
  | false => rw [q] at h; exact absurd rfl h
theorem guard_eq {n : Nat} {F : Fn} {ds : List D} (h : ds.length = n) : guard n F ds = F ds := by
  unfold guard
  subst h
  have e : Nat.beq ds.length ds.length = true := Nat.beq_refl _
  rw [e]
theorem body_sem {K : PySem.W.Frag} {E : XK} {N : List Str} {g : Mo Fl} {t : TS} {n : Nat} (q : ∀ G ρ σ H De, J K G ρ σ H → PostS K E G ρ σ H De (g ρ) → t De σ H) {vs : List V} {H : Hp} {Q : VK} (h : spP K n (guard n (runF N.length g)) vs H Q E) :
    t { nx := fun _ H' => Q .non H', rt := Q } (start N vs) H := by
  obtain ⟨G, ds, s, r, hl, k⟩ := h
  rw [guard_eq hl] at k
  refine q G _ _ H _ (start_j s r) ?_
  have no : ∀ b, ¬ Ownd (ds.map Sl.pur ++ List.replicate (N.length - ds.length) Sl.no) (start N vs) b := fun b => start_no
  unfold runF at k
  cases e : g (ds.map Sl.pur ++ List.replicate (N.length - ds.length) Sl.no) with
  | none => rw [e] at k; exact k.elim
  | some o =>
    rw [e] at k
    cases o with
    | error x => exact fun C dx H' z => k C dx H' (z.to0 no)
    | ok p =>
      obtain ⟨ρ', f⟩ := p
      cases f with
      | nx => exact fun G' σ' H' z => k G' .non H' (z.px no) .non
      | rt d => exact fun G' σ' v H' z r => k G' v H' (z.px no) r
      | bk => exact k.elim
      | ct => exact k.elim
theorem pass_cx {P : Program} {w : World} {K : PySem.W.Frag} {mg : Str → Option Value} {base : Heap} {N : List Str} {qual : Str} {scope : Scope} {f : Addr} {cd : Value} {A : Around} {outer : List PySem.Env} {s : Shared} {H : Hp} {E : XK} :
    Passes (L2.CX P w) (cxOf (L2.CX P w) P w K mg base N qual scope f cd A outer s H E) E := passes_call (takes_of rfl rfl rfl rfl) fun _ _ _ _ h => h
theorem fn_ok {P : Program} {w : World} {K : PySem.W.Frag} {mg : Str → Option Value} {base : Heap} {x : Str} {st : Stmt} {fd : FuncData} {N ps : List Str} {k : Nat} {g : Mo Fl} (F : FunD K x x (defArgs st) (defBody st) (defScope st) [] [] (He.ga K x) fd) (S : FnScope N ps (defScope st)) (gl : mg x = some (.ref (He.ga K x)))
    (b : ∀ (kV doc pm : Value) (an : Option Addr) (cdv ct : Value) (us : List Value), us.length = ps.length → bindArgs (PySem.W.fnOf x x (defArgs st) (defBody st) (defScope st) .none kV doc pm an cdv ct) ⟨us, []⟩ = pure (ps.zip us))
    (hb : ∀ (cdv : Value) (A : Around) (outer : List PySem.Env) (s : Shared) (H : Hp) (E : XK), Room k (A.deeper (PyProof.Rows.envOfC x (defScope st) s.heap.objs.size (He.ga K x) cdv)) → SVs (cxOf (L2.CX P w) P w K mg base N x (defScope st) (He.ga K x) cdv A outer s H E) E (defBody st) g) :
    FnE P w K mg base (k + 1) x ps (guard ps.length (runF N.length g)) := by
  refine ⟨⟨fd, F.ok S (fun vs H Q E h => ?_) fun cdv A outer s H vs Q E hr h => ?_, F.bindsN b⟩, F.kp, gl, fun ds h => guard_len h⟩
  · obtain ⟨G, ds, _, r, hl, _⟩ := h
    rw [r.length, hl]
  · obtain ⟨t, p, q⟩ := hb cdv A outer s H E hr
    exact ⟨t, p, body_sem q h⟩
/-- the same def by another reckoning -/
theorem FnE.by {P : Program} {w : World} {K : PySem.W.Frag} {mg : Str → Option Value} {base : Heap} {k : Nat} {x : Str} {ps : List Str} {F F' : Fn} (h : FnE P w K mg base k x ps F) (e : ∀ ds r, F' ds = some r → F ds = some r) : FnE P w K mg base k x ps F' := by
  obtain ⟨⟨fd, h1, h2⟩, kp, gl, hl⟩ := h
  refine ⟨⟨fd, h1.imp fun vs H Q E q => ?_, h2⟩, kp, gl, fun ds q => ?_⟩
  · obtain ⟨G, ds, s, r, l, z⟩ := q
    refine ⟨G, ds, s, r, l, ?_⟩
    cases e1 : F' ds with
    | none => rw [e1] at z; exact z.elim
    | some o => rw [e ds o e1]; rw [e1] at z; exact z
  · cases e1 : F' ds with
    | none => exact absurd e1 q
    | some o => exact hl ds (by rw [e ds o e1]; simp)
/-! ### operators on data -/
section
variable {X : Cx}
def addD : D → D → Option D
  | .int i, .int j => some (.int (i + j))
  | .str x, .str y => if x.length + y.length ≤ 1000000 then some (.str (x ++ y)) else none
  | .tuple xs, .tuple ys => if xs.length + ys.length ≤ 1000000 then some (.tuple (xs ++ ys)) else none
  | .list xs, .list ys => if xs.length + ys.length ≤ 1000000 then some (.list (xs ++ ys)) else none
  | _, _ => none
theorem ite_some {c : Prop} [Decidable c] {α : Type} {a b : α} (h : (if c then some a else none) = some b) : c ∧ a = b := by
  split at h
  · rename_i q
    exact ⟨q, Option.some.inj h⟩
  · cases h
theorem dop_add : DOp X (binaryOp .Add) addD := by
  refine ⟨_, op_add.or (op_add_str.or (op_catA.or op_cat)), fun G H x y a b c Q s hx hy h k => ?_⟩
  cases hx with
  | int i => cases hy with
    | int j => cases h; exact .inl ⟨i, j, rfl, rfl, k G _ H (.refl s) (.int _)⟩
    | _ => cases h
  | str z => cases hy with
    | str z' =>
      obtain ⟨h1, rfl⟩ := ite_some (show (if z.length + z'.length ≤ 1000000 then some (PyData.str (z ++ z')) else none) = some c from h)
      exact .inr (.inl ⟨z, z', rfl, rfl, line_of h1, k G _ H (.refl s) (.str _)⟩)
    | _ => cases h
  | @tup a xs ds h1 h2 => cases hy with
    | @tup a' ys es h3 h4 =>
      obtain ⟨hz, rfl⟩ := ite_some (show (if ds.length + es.length ≤ 1000000 then some (PyData.tuple (ds ++ es)) else none) = some c from h)
      have l1 := h2.length
      have l2 := h4.length
      refine .inr (.inr (.inl ⟨a, a', xs, ys, rfl, rfl, sqT_mono s h1, sqT_mono s h3, by rw [l1, l2]; exact line_of hz, fun e => ?_, fun _ e => ?_, fun _ _ p hp => ?_⟩))
      · subst e
        cases h2
        exact k G _ H (.refl s) (.tup h3 h4)
      · subst e
        cases h4
        exact k G _ H (.refl s) (by rw [List.append_nil]; exact .tup h1 h2)
      · have px : PX G H _ _ := .alloc s hp (.tup (xs ++ ys))
        exact k _ _ _ px (.tup (.of upd_same) ((h2.append h4).mono px.g))
    | _ => cases h
  | @lst a xs ds h1 h2 => cases hy with
    | @lst a' ys es h3 h4 =>
      obtain ⟨hz, rfl⟩ := ite_some (show (if ds.length + es.length ≤ 1000000 then some (PyData.list (ds ++ es)) else none) = some c from h)
      refine .inr (.inr (.inr ⟨a, a', xs, ys, rfl, rfl, s _ _ h1, s _ _ h3, by rw [h2.length, h4.length]; exact line_of hz, fun p hp => ?_⟩))
      have px : PX G H _ _ := .alloc s hp (.lst (xs ++ ys))
      exact k _ _ _ px (.lst upd_same ((h2.append h4).mono px.g))
    | _ => cases h
  | obj h1 h2 => cases h
  | _ => cases h
def subD : D → D → Option D
  | .int i, .int j => some (.int (i - j))
  | _, _ => none
theorem dop_sub : DOp X (binaryOp .Sub) subD := by
  refine ⟨_, op_sub, fun G H x y a b c Q s hx hy h k => ?_⟩
  cases hx with
  | int i => cases hy with
    | int j => cases h; exact ⟨i, j, rfl, rfl, k G _ H (.refl s) (.int _)⟩
    | _ => cases h
  | _ => cases h
/-- the factors have together less than a million bits -/
def mulFit (i j : Int) : Bool := Nat.blt (i.natAbs.log2 + j.natAbs.log2) 1000000
def mulD : D → D → Option D
  | .int i, .int j => match mulFit i j with
    | true => some (.int (i * j))
    | false => none
  | .list xs, .int k => if xs.length * k.toNat ≤ 1000000 ∧ k < 1000000 ∧ -1000000 < k then some (.list (List.replicate k.toNat xs).flatten) else none
  | _, _ => none
theorem RpAll.flat {K : PySem.W.Frag} {G : Hp} {xs : List V} {ds : List D} (r : RpAll K G xs ds) : ∀ n : Nat, RpAll K G (List.replicate n xs).flatten (List.replicate n ds).flatten
  | 0 => .nil
  | n + 1 => by
    simp only [List.replicate_succ, List.flatten_cons]
    exact r.append (RpAll.flat r n)
theorem dop_mul : DOp X (binaryOp .Mult) mulD := by
  refine ⟨_, op_mulW.or op_rep, fun G H x y a b c Q s hx hy h k => ?_⟩
  cases hx with
  | int i => cases hy with
    | int j =>
      have h' : (match mulFit i j with
        | true => some (PyData.int (i * j))
        | false => none) = some c := h
      cases q : mulFit i j with
      | true =>
        rw [q] at h'
        cases h'
        refine .inl ⟨i, j, rfl, rfl, ?_, k G _ H (.refl s) (.int _)⟩
        unfold mulFit Nat.blt at q
        exact Nat.le_of_ble_eq_true q
      | false => rw [q] at h'; cases h'
    | _ => cases h
  | @lst a xs ds h1 h2 => cases hy with
    | int j =>
      obtain ⟨⟨hz, h3, h4⟩, rfl⟩ := ite_some (show (if ds.length * j.toNat ≤ 1000000 ∧ j < 1000000 ∧ -1000000 < j then some (PyData.list (List.replicate j.toNat ds).flatten) else none) = some c from h)
      refine .inr ⟨a, j, xs, rfl, rfl, s _ _ h1, by omega, by omega, by rw [h2.length]; exact line_of hz, fun p hp => ?_⟩
      have px : PX G H _ _ := .alloc s hp (.lst (List.replicate j.toNat xs).flatten)
      exact k _ _ _ px (.lst upd_same ((h2.flat _).mono px.g))
    | _ => cases h
  | obj h1 h2 => cases h
  | _ => cases h
def fdivD : D → D → Option D
  | .int i, .int j => if 0 < j ∧ j.natAbs.log2 < 9000 then some (.int (i / j)) else none
  | _, _ => none
theorem dop_fdiv : DOp X (binaryOp .FloorDiv) fdivD := by
  refine ⟨_, op_fdivW, fun G H x y a b c Q s hx hy h k => ?_⟩
  cases hx with
  | int i => cases hy with
    | int j =>
      obtain ⟨h1, rfl⟩ := ite_some (show (if 0 < j ∧ j.natAbs.log2 < 9000 then some (PyData.int (i / j)) else none) = some c from h)
      exact ⟨i, j, rfl, rfl, h1, k G _ H (.refl s) (.int _)⟩
    | _ => cases h
  | _ => cases h
def modD : D → D → Option D
  | .int i, .int j => if 0 < j then some (.int (i % j)) else none
  | _, _ => none
theorem dop_mod : DOp X (binaryOp .Mod) modD := by
  refine ⟨_, op_mod, fun G H x y a b c Q s hx hy h k => ?_⟩
  cases hx with
  | int i => cases hy with
    | int j =>
      obtain ⟨h1, rfl⟩ := ite_some (show (if 0 < j then some (PyData.int (i % j)) else none) = some c from h)
      exact ⟨i, j, rfl, rfl, h1, k G _ H (.refl s) (.int _)⟩
    | _ => cases h
  | _ => cases h
def powD : D → D → Option D
  | .int i, .int j => if 0 ≤ j ∧ j ≤ 1000000 ∧ i.natAbs < 2 ^ 64 then some (.int (i ^ j.toNat)) else none
  | _, _ => none
theorem dop_pow : DOp X (binaryOp .Pow) powD := by
  refine ⟨_, op_pow, fun G H x y a b c Q s hx hy h k => ?_⟩
  cases hx with
  | int i => cases hy with
    | int j =>
      obtain ⟨h1, rfl⟩ := ite_some (show (if 0 ≤ j ∧ j ≤ 1000000 ∧ i.natAbs < 2 ^ 64 then some (PyData.int (i ^ j.toNat)) else none) = some c from h)
      exact ⟨i, j, rfl, rfl, h1, k G _ H (.refl s) (.int _)⟩
    | _ => cases h
  | _ => cases h
/-- comparisons of ints -/
def cmpD (p : Int → Int → Bool) : D → D → Option D
  | .int i, .int j => some (.bool (p i j))
  | _, _ => none
theorem dop_cmp {sem : Value → Value → Sem Value} {p : Int → Int → Bool} (h : OpR X sem (rI0 fun i j => .bl (p i j))) : DOp X sem (cmpD p) := by
  refine ⟨_, h, fun G H x y a b c Q s hx hy h k => ?_⟩
  cases hx with
  | int i => cases hy with
    | int j => cases h; exact ⟨i, j, rfl, rfl, k G _ H (.refl s) (.bl _)⟩
    | _ => cases h
  | _ => cases h
def ltI (i j : Int) : Bool := decide (i < j)
def leI (i j : Int) : Bool := decide (i ≤ j)
def gtI (i j : Int) : Bool := decide (j < i)
def geI (i j : Int) : Bool := decide (j ≤ i)
theorem dop_lt : DOp X (compareOp .Lt) (cmpD ltI) := dop_cmp op_lt
theorem dop_le : DOp X (compareOp .LtE) (cmpD leI) := dop_cmp op_le
theorem dop_gt : DOp X (compareOp .Gt) (cmpD gtI) := dop_cmp op_gt
theorem dop_ge : DOp X (compareOp .GtE) (cmpD geI) := dop_cmp op_ge
/-! plain data: no objects in it -/
mutual
theorem Rp.dp {K : PySem.W.Frag} {H : Hp} : ∀ {v : V} (d : D), d.canLay0 = true → Rp K H v d → Dp K H v d
  | _, .none, _, r => by cases r; exact .non
  | _, .bool b, _, r => by cases r; exact .bl _
  | _, .int b, _, r => by cases r; exact .int _
  | _, .str b, _, r => by cases r; exact .str _
  | _, .list ds, c, r => by
    cases r with
    | lst h1 h2 => exact .lst (.of h1) (RpAll.dp ds (by simpa [PyData.canLay0] using c) h2)
  | _, .tuple ds, c, r => by
    cases r with
    | tup h1 h2 => exact .tup h1 (RpAll.dp ds (by simpa [PyData.canLay0] using c) h2)
  | _, .dict _, c, r => by simp [PyData.canLay0] at c
theorem RpAll.dp {K : PySem.W.Frag} {H : Hp} : ∀ {vs : List V} (ds : List D), PyData.canLayAll0 ds = true → RpAll K H vs ds → DpAll K H vs ds
  | _, [], _, r => by cases r; exact .nil
  | _, d :: ds, c, r => by
    cases r with
    | cons h t =>
      have c2 : (d.canLay0 && PyData.canLayAll0 ds) = true := by simpa [PyData.canLayAll0] using c
      obtain ⟨c3, c4⟩ := Bool.and_eq_true_iff.mp c2
      exact .cons (Rp.dp d c3 h) (RpAll.dp ds c4 t)
end
def eqD : D → D → Option D
  | .int i, .int j => some (.bool (i == j))
  | a, b => if SeqAt.shaped a = true ∧ SeqAt.shaped b = true then some (.bool (PyData.eqv a b)) else none
def neD : D → D → Option D
  | .int i, .int j => some (.bool (!(i == j)))
  | a, b => if SeqAt.shaped a = true ∧ SeqAt.shaped b = true then some (.bool (!PyData.eqv a b)) else none
theorem eqD_is {a b c : D} (h : eqD a b = some c) : SeqAt.shaped a = true ∧ SeqAt.shaped b = true ∧ c = .bool (PyData.eqv a b) := by
  unfold eqD at h
  split at h
  · cases h
    exact ⟨rfl, rfl, by simp only [PyData.eqv]⟩
  · obtain ⟨⟨h1, h2⟩, rfl⟩ := ite_some h
    exact ⟨h1, h2, rfl⟩
theorem neD_is {a b c : D} (h : neD a b = some c) : SeqAt.shaped a = true ∧ SeqAt.shaped b = true ∧ c = .bool (!PyData.eqv a b) := by
  unfold neD at h
  split at h
  · cases h
    exact ⟨rfl, rfl, by simp only [PyData.eqv]⟩
  · obtain ⟨⟨h1, h2⟩, rfl⟩ := ite_some h
    exact ⟨h1, h2, rfl⟩
theorem Rp.shaped {K : PySem.W.Frag} {G H : Hp} {v : V} {d : D} (s : Same G H) (c : SeqAt.shaped d = true) (r : Rp K G v d) : Dp K H v d := (r.mono s).dp d (SeqAt.canLay_of_shaped c)
theorem dop_eq (hu : X.A.units + 64 < cLine) : DOp X (compareOp .Eq) eqD := by
  refine ⟨_, op_eqD hu, fun G H x y a b c Q s hx hy h k => ?_⟩
  obtain ⟨h1, h2, rfl⟩ := eqD_is h
  exact ⟨a, b, hx.shaped s h1, hy.shaped s h2, h1, h2, k G _ H (.refl s) (.bl _)⟩
theorem dop_ne (hu : X.A.units + 64 < cLine) : DOp X (compareOp .NotEq) neD := by
  refine ⟨_, op_neD hu, fun G H x y a b c Q s hx hy h k => ?_⟩
  obtain ⟨h1, h2, rfl⟩ := neD_is h
  exact ⟨a, b, hx.shaped s h1, hy.shaped s h2, h1, h2, k G _ H (.refl s) (.bl _)⟩
def isN : D → Bool
  | .none => true
  | _ => false
theorem isN_V {K : PySem.W.Frag} {G : Hp} {v : V} {d : D} (r : Rp K G v d) : decide (v = .non) = isN d := by
  cases r <;> simp [isN]
/-- is None -/
def isD : D → D → Option D
  | a, .none => some (.bool (isN a))
  | _, _ => none
def isNotD : D → D → Option D
  | a, .none => some (.bool (!isN a))
  | _, _ => none
theorem dop_is : DOp X (compareOp .Is) isD := by
  refine ⟨_, op_isN, fun G H x y a b c Q s hx hy h k => ?_⟩
  cases hy with
  | non => cases h; exact ⟨rfl, by rw [isN_V hx]; exact k G _ H (.refl s) (.bl _)⟩
  | _ => cases h
theorem dop_isNot : DOp X (compareOp .IsNot) isNotD := by
  refine ⟨_, op_notN, fun G H x y a b c Q s hx hy h k => ?_⟩
  cases hy with
  | non => cases h; exact ⟨rfl, by rw [isN_V hx]; exact k G _ H (.refl s) (.bl _)⟩
  | _ => cases h
end
end HB
namespace HB
open PySem L2
section
variable {X : Cx} {E : XK}
/-! ### more operators -/
def inD : D → D → Option D
  | d, .list ds => if SeqAt.shaped d = true ∧ SeqAt.shaped (.list ds) = true then some (.bool (ds.any fun z => PyData.eqv z d)) else none
  | .str i, .str j => some (.bool (!(Builtin.Str.occurrences j i 0 j.length 1).isEmpty))
  | _, _ => none
def notInD : D → D → Option D
  | d, .list ds => if SeqAt.shaped d = true ∧ SeqAt.shaped (.list ds) = true then some (.bool (!ds.any fun z => PyData.eqv z d)) else none
  | .str i, .str j => some (.bool (!!(Builtin.Str.occurrences j i 0 j.length 1).isEmpty))
  | _, _ => none
theorem dop_in (hu : X.A.units + 65 < cLine) : DOp X (compareOp .In) inD := by
  refine ⟨_, (op_inD hu).or op_in_str, fun G H x y a b c Q s hx hy h k => ?_⟩
  cases hy with
  | @lst p xs ds h1 h2 =>
    obtain ⟨⟨h3, h4⟩, rfl⟩ := ite_some (show (if SeqAt.shaped a = true ∧ SeqAt.shaped (.list ds) = true then some (PyData.bool (ds.any fun z => PyData.eqv z a)) else none) = some c by
      cases a <;> exact h)
    exact .inl ⟨a, ds, hx.shaped s h3, (Rp.lst h1 h2).shaped s h4, h3, h4, k G _ H (.refl s) (.bl _)⟩
  | str z => cases hx with
    | str z' => cases h; exact .inr ⟨z', z, rfl, rfl, k G _ H (.refl s) (.bl _)⟩
    | _ => cases h
  | _ => cases hx <;> cases h
theorem dop_notIn (hu : X.A.units + 65 < cLine) : DOp X (compareOp .NotIn) notInD := by
  refine ⟨_, (op_notInD hu).or op_notin_str, fun G H x y a b c Q s hx hy h k => ?_⟩
  cases hy with
  | @lst p xs ds h1 h2 =>
    obtain ⟨⟨h3, h4⟩, rfl⟩ := ite_some (show (if SeqAt.shaped a = true ∧ SeqAt.shaped (.list ds) = true then some (PyData.bool (!ds.any fun z => PyData.eqv z a)) else none) = some c by
      cases a <;> exact h)
    exact .inl ⟨a, ds, hx.shaped s h3, (Rp.lst h1 h2).shaped s h4, h3, h4, k G _ H (.refl s) (.bl _)⟩
  | str z => cases hx with
    | str z' => cases h; exact .inr ⟨z', z, rfl, rfl, k G _ H (.refl s) (.bl _)⟩
    | _ => cases h
  | _ => cases hx <;> cases h
/-- -a -/
def negD : D → Option D
  | .int i => some (.int (-i))
  | _ => none
def mUn (f : D → Option D) (a : Mo D) : Mo D := mBind a fun x => mLift (f x)
theorem ev_neg {a : Expr} {pos : Pos} {f : Mo D} (h : EV X E a f) : EV X E (.UnaryOp .USub a pos) (mUn negD f) := by
  obtain ⟨t, p, q⟩ := h
  refine ⟨_, pe_un un_neg p, fun G ρ σ H Q j h => q G ρ σ H _ j (Post.imp h fun G1 ρ1 x H1 a e1 r1 h1 => ?_)⟩
  obtain ⟨c, hc, k⟩ := Post.lift (ρ' := ρ1) h1
  cases r1 with
  | int i => cases hc; exact ⟨i, rfl, k G1 _ H1 e1.j.refl (.int _)⟩
  | _ => cases hc
/-- a op b op' c -/
def mChain (f g : D → D → Option D) (a b c : Mo D) : Mo D := mBind a fun x => mBind b fun y => mBind (mTest (mLift (f x y))) fun t => match t with
  | true => mBind c fun z => mLift (g y z)
  | false => mRet (.bool false)
theorem chain_sem {ta tb tc : TE} {r r' : R2} {fa fb fc : Mo D} {f g : D → D → Option D} (ha : ∀ G ρ σ H Q, J X.K G ρ σ H → Post X.K E (Rp X.K) G ρ σ H Q (fa ρ) → ta σ H Q) (hb : ∀ G ρ σ H Q, J X.K G ρ σ H → Post X.K E (Rp X.K) G ρ σ H Q (fb ρ) → tb σ H Q) (hc : ∀ G ρ σ H Q, J X.K G ρ σ H → Post X.K E (Rp X.K) G ρ σ H Q (fc ρ) → tc σ H Q)
    (hr : ∀ G H x y a b c Q, Same G H → Rp X.K G x a → Rp X.K G y b → f a b = some c → (∀ G' v H', PX G H G' H' → Rp X.K G' v c → Q v H') → r x y H Q)
    (hr' : ∀ G H x y a b c Q, Same G H → Rp X.K G x a → Rp X.K G y b → g a b = some c → (∀ G' v H', PX G H G' H' → Rp X.K G' v c → Q v H') → r' x y H Q) :
    ∀ G ρ σ H Q, J X.K G ρ σ H → Post X.K E (Rp X.K) G ρ σ H Q (mChain f g fa fb fc ρ) → tChain r r' ta tb tc σ H Q := by
  intro G ρ σ H Q j h
  refine ha G ρ σ H _ j (Post.imp h fun G1 ρ1 x H1 a e1 r1 h1 => ?_)
  refine hb G1 ρ1 σ H1 _ e1.j (Post.imp h1 fun G2 ρ2 y H2 b e2 r2 h2 => ?_)
  cases hf : f a b with
  | none =>
    have h2' : Post X.K E (Rp X.K) G2 ρ2 σ H2 Q (mBind (mTest (mLift (f a b))) _ ρ2) := h2
    unfold mBind mTest mBind mLift at h2'
    rw [hf] at h2'
    exact h2'.elim
  | some c =>
    have h2' : Post X.K E (Rp X.K) G2 ρ2 σ H2 Q (mBind (mTest (mLift (f a b))) _ ρ2) := h2
    unfold mBind mTest mBind mLift at h2'
    rw [hf] at h2'
    cases c with
    | bool t =>
      refine hr G2 H2 x y a b _ _ e2.j.sub (r1.mono e2.g) r2 hf fun G3 v H3 p3 r3 => ?_
      cases r3
      have e3 := e2.j.ex p3
      refine ⟨t, rfl, ?_⟩
      cases t with
      | true =>
        refine (hc G3 ρ2 σ H3 _ e3.j (Post.imp (f := fun z => mLift (g b z)) (Post.ex e3 h2') fun G4 ρ4 z H4 dc e4 r4 h4 => ?_) : _)
        obtain ⟨c, hc, k⟩ := Post.lift (ρ' := ρ4) h4
        exact hr' G4 H4 y z b dc c Q e4.j.sub ((r2.mono p3.g).mono e4.g) r4 hc fun G' v H' p q => k G' v H' (e4.j.ex p) q
      | false => exact ((Post.ex e3 h2' : Post X.K E (Rp X.K) G3 ρ2 σ H3 Q (some (.ok (ρ2, .bool false)))) G3 _ H3 e3.j.refl (.bl false) : _)
    | _ => exact h2'.elim
theorem ev_chain {op op' : CmpOp} {a b c : Expr} {pos : Pos} {fa fb fc : Mo D} {f g : D → D → Option D} (ho : DOp X (compareOp op) f) (ho' : DOp X (compareOp op') g) (ha : EV X E a fa) (hb : EV X E b fb) (hc : EV X E c fc) (h1 : lastMarks [op, op'] [b, c] = false := by with_unfolding_all rfl) :
    EV X E (.Compare a [op, op'] [b, c] pos) (mChain f g fa fb fc) := by
  obtain ⟨r, o, hr⟩ := ho
  obtain ⟨r', o', hr'⟩ := ho'
  obtain ⟨ta, pa, qa⟩ := ha
  obtain ⟨tb, pb, qb⟩ := hb
  obtain ⟨tc, pc, qc⟩ := hc
  exact ⟨_, pe_chain o o' pa pb pc h1, chain_sem qa qb qc hr hr'⟩
theorem et_chain {op op' : CmpOp} {a b c : Expr} {pos : Pos} {fa fb fc : Mo D} {f g : D → D → Option D} (ho : DOp X (compareOp op) f) (ho' : DOp X (compareOp op') g) (ha : EV X E a fa) (hb : EV X E b fb) (hc : EV X E c fc) (h1 : lastMarks [op, op'] [b, c] = false := by with_unfolding_all rfl) :
    ET X E (.Compare a [op, op'] [b, c] pos) (mTest (mChain f g fa fb fc)) := by
  obtain ⟨r, o, hr⟩ := ho
  obtain ⟨r', o', hr'⟩ := ho'
  obtain ⟨ta, pa, qa⟩ := ha
  obtain ⟨tb, pb, qb⟩ := hb
  obtain ⟨tc, pc, qc⟩ := hc
  exact ⟨_, pt_chain o o' pa pb pc h1, test_sem (chain_sem qa qb qc hr hr')⟩
/-! ### builtins -/
def lenD : List D → Option D
  | [.list ds] => some (.int ds.length)
  | [.tuple ds] => some (.int ds.length)
  | [.dict [(.none, .list ds)]] => some (.int ds.length)
  | [.str x] => if x.length ≤ 1000000 then some (.int x.length) else none
  | _ => none
theorem RpAll.one {K : PySem.W.Frag} {G : Hp} {xs : List V} {d : D} (r : RpAll K G xs [d]) : ∃ x, xs = [x] ∧ Rp K G x d := by
  cases r with
  | cons h t => cases t; exact ⟨_, rfl, h⟩
theorem RpAll.two {K : PySem.W.Frag} {G : Hp} {xs : List V} {d e : D} (r : RpAll K G xs [d, e]) : ∃ x y, xs = [x, y] ∧ Rp K G x d ∧ Rp K G y e := by
  cases r with
  | cons h t =>
    obtain ⟨y, rfl, q⟩ := t.one
    exact ⟨_, y, rfl, h, q⟩
theorem dc_len : DCall X (.builtin "len") lenD := by
  refine ⟨_, call_len, fun G H xs ds c Q s hx h k => ?_⟩
  match ds, h with
  | [.list ds], h =>
    obtain ⟨x, rfl, r⟩ := hx.one
    cases h
    cases r with
    | lst h1 h2 => exact ⟨_, _, rfl, .inl ⟨_, .of (s _ _ h1), h2.length.symm⟩, k G _ H (.refl s) (.int _)⟩
  | [.tuple ds], h =>
    obtain ⟨x, rfl, r⟩ := hx.one
    cases h
    cases r with
    | tup h1 h2 => exact ⟨_, _, rfl, .inr ⟨_, sqT_mono s h1, h2.length.symm⟩, k G _ H (.refl s) (.int _)⟩
  | [.dict [(.none, .list ds)]], h =>
    obtain ⟨x, rfl, r⟩ := hx.one
    cases h
    cases r with
    | frz h1 h2 => exact ⟨_, _, rfl, .inl ⟨_, s.seq h1, h2.length.symm⟩, k G _ H (.refl s) (.int _)⟩
  | [.str z], h =>
    obtain ⟨x, rfl, r⟩ := hx.one
    obtain ⟨h1, rfl⟩ := ite_some (show (if z.length ≤ 1000000 then some (PyData.int z.length) else none) = some c from h)
    cases r
    exact ⟨_, _, rfl, ⟨line_of h1, rfl⟩, k G _ H (.refl s) (.int _)⟩
def absD : List D → Option D
  | [.int i] => some (.int (if i < 0 then -i else i))
  | _ => none
theorem dc_abs : DCall X (.builtin "abs") absD := by
  refine ⟨_, call_abs, fun G H xs ds c Q s hx h k => ?_⟩
  match ds, h with
  | [.int i], h =>
    obtain ⟨x, rfl, r⟩ := hx.one
    cases h
    cases r
    exact ⟨_, rfl, k G _ H (.refl s) (.int _)⟩
def maxD : List D → Option D
  | [.int i, .int j] => some (.int (if j > i then j else i))
  | _ => none
def minD : List D → Option D
  | [.int i, .int j] => some (.int (if j < i then j else i))
  | _ => none
theorem dc_max (hc : X.calm = true) : DCall X (.builtin "max") maxD := by
  refine ⟨_, call_max2 hc, fun G H xs ds c Q s hx h k => ?_⟩
  match ds, h with
  | [.int i, .int j], h =>
    obtain ⟨x, y, rfl, r, r2⟩ := hx.two
    cases h
    cases r
    cases r2
    exact ⟨_, _, rfl, k G _ H (.refl s) (.int _)⟩
theorem dc_min (hc : X.calm = true) : DCall X (.builtin "min") minD := by
  refine ⟨_, call_min2 hc, fun G H xs ds c Q s hx h k => ?_⟩
  match ds, h with
  | [.int i, .int j], h =>
    obtain ⟨x, y, rfl, r, r2⟩ := hx.two
    cases h
    cases r
    cases r2
    exact ⟨_, _, rfl, k G _ H (.refl s) (.int _)⟩
def intD : List D → Option D
  | [.int i] => some (.int i)
  | [.bool b] => some (.int (if b then 1 else 0))
  | _ => none
theorem dc_int : DCall X (.type "int") intD := by
  refine ⟨_, call_int1, fun G H xs ds c Q s hx h k => ?_⟩
  match ds, h with
  | [.int i], h =>
    obtain ⟨x, rfl, r⟩ := hx.one
    cases h
    cases r
    exact .inl ⟨_, rfl, k G _ H (.refl s) (.int _)⟩
  | [.bool i], h =>
    obtain ⟨x, rfl, r⟩ := hx.one
    cases h
    cases r
    exact .inr ⟨_, rfl, k G _ H (.refl s) (.int _)⟩
def boolsD : List D → Option (List Bool)
  | [] => some []
  | .bool b :: r => (boolsD r).map (b :: ·)
  | _ :: _ => none
theorem RpAll.bools {K : PySem.W.Frag} {G : Hp} : ∀ {xs : List V} {ds : List D} {bs : List Bool}, RpAll K G xs ds → boolsD ds = some bs → xs = bs.map V.bl
  | _, [], _, .nil, h => by cases h; rfl
  | _, .bool b :: r, bs, .cons h t, e => by
    cases h
    have e' : (boolsD r).map (b :: ·) = some bs := e
    cases q : boolsD r with
    | none => rw [q] at e'; cases e'
    | some cs =>
      rw [q] at e'
      cases e'
      rw [t.bools q]
      rfl
def allD : List D → Option D
  | [.list ds] => (boolsD ds).map fun bs => .bool (bs.all id)
  | _ => none
def anyD : List D → Option D
  | [.list ds] => (boolsD ds).map fun bs => .bool (bs.any id)
  | _ => none
theorem dc_all (hc : X.calm = true) : DCall X (.builtin "all") allD := by
  refine ⟨_, cr_all hc, fun G H xs ds c Q s hx h k => ?_⟩
  match ds, h with
  | [.list ds], h =>
    obtain ⟨x, rfl, r⟩ := hx.one
    have h' : (boolsD ds).map (fun bs => PyData.bool (bs.all id)) = some c := h
    cases q : boolsD ds with
    | none => rw [q] at h'; cases h'
    | some bs =>
      rw [q] at h'
      cases h'
      cases r with
      | lst h1 h2 => exact ⟨_, bs, rfl, .of (by rw [← h2.bools q]; exact s _ _ h1), k G _ H (.refl s) (.bl _)⟩
theorem dc_any (hc : X.calm = true) : DCall X (.builtin "any") anyD := by
  refine ⟨_, cr_any hc, fun G H xs ds c Q s hx h k => ?_⟩
  match ds, h with
  | [.list ds], h =>
    obtain ⟨x, rfl, r⟩ := hx.one
    have h' : (boolsD ds).map (fun bs => PyData.bool (bs.any id)) = some c := h
    cases q : boolsD ds with
    | none => rw [q] at h'; cases h'
    | some bs =>
      rw [q] at h'
      cases h'
      cases r with
      | lst h1 h2 => exact ⟨_, bs, rfl, .of (by rw [← h2.bools q]; exact s _ _ h1), k G _ H (.refl s) (.bl _)⟩
def tupleD : List D → Option D
  | [.list ds] => some (.tuple ds)
  | [.tuple ds] => some (.tuple ds)
  | _ => none
theorem dc_tuple : DCall X (.type "tuple") tupleD := by
  refine ⟨_, call_tuple_of, fun G H xs ds c Q s hx h k => ?_⟩
  match ds, h with
  | [.list ds], h =>
    obtain ⟨x, rfl, r⟩ := hx.one
    cases h
    cases r with
    | @lst a vs ds h1 h2 =>
      refine ⟨_, vs, rfl, .inl ⟨.of (s _ _ h1), fun l hl => ?_⟩⟩
      have px : PX G H _ _ := .alloc s hl (.tup vs)
      exact k _ _ _ px (.tup (.of upd_same) (h2.mono px.g))
  | [.tuple ds], h =>
    obtain ⟨x, rfl, r⟩ := hx.one
    cases h
    cases r with
    | tup h1 h2 => exact ⟨_, _, rfl, .inr ⟨sqT_mono s h1, k G _ H (.refl s) (.tup h1 h2)⟩⟩
def strD : List D → Option D
  | [.int i] => if i.natAbs.log2 < 1920 then some (.str (toString i)) else none
  | _ => none
theorem dc_str : DCall X (.type "str") strD := by
  refine ⟨_, call_str_int, fun G H xs ds c Q s hx h k => ?_⟩
  match ds, h with
  | [.int i], h =>
    obtain ⟨x, rfl, r⟩ := hx.one
    obtain ⟨h1, rfl⟩ := ite_some (show (if i.natAbs.log2 < 1920 then some (PyData.str (toString i)) else none) = some c from h)
    cases r
    exact ⟨_, rfl, h1, k G _ H (.refl s) (.str _)⟩
/-- list(x): a new list -/
def mListOf (f : Mo D) : Mo (List D) := mBind f fun d => mLift (itemsD d)
theorem en_list {e : Expr} {p pos : Pos} {f : Mo D} (hm : X.mg "list" = none) (h : EV X E e f) (hg : Gl X "list" := by rfl) (he : starEach [e] X.env = (false, eval e X.env) :: starEach [] X.env := by rfl) (hpl : (backTo pos (starEach [] X.env)).any (·.1) = false := by rfl) : EN X E (.Call (.Name "list" p) [e] [] pos) (mListOf f) := by
  obtain ⟨t, pt, q⟩ := h
  refine ⟨_, pe_callTy call_list_of hg hm (by decide +kernel) (pa_cons pt pa_nil he) (by decide) (by decide) he hpl, fun G ρ σ H Q j h => ?_⟩
  refine q G ρ σ H _ j (Post.impN h fun G1 ρ1 x H1 d e1 r1 h1 => ?_)
  obtain ⟨ds, hd, k⟩ := Post.liftN h1
  obtain ⟨p0, xs, rfl, s0, r0⟩ := r1.items hd
  refine ⟨p0, xs, rfl, (sq_mono e1.j.sub s0).symm, fun l hl => ?_⟩
  exact k _ _ _ (new_list e1.j hl r0) ⟨l, xs, rfl, hl, e1.j.free hl, upd_same, e1.j.nown hl, r0⟩
/-! ### isinstance -/
def tyD : D → Option String
  | .none => some "NoneType"
  | .bool _ => some "bool"
  | .int _ => some "int"
  | .str _ => some "str"
  | .list _ => some "list"
  | .tuple _ => some "tuple"
  | _ => none
theorem Rp.ty {K : PySem.W.Frag} {G H : Hp} {v : V} {d : D} {n : String} (s : Same G H) (r : Rp K G v d) (h : tyD d = some n) : TyX K H v (.type n) := by
  cases r with
  | non => cases h; exact .base .non
  | bl b => cases h; exact .base (.bl b)
  | int i => cases h; exact .base (.int i)
  | str x => cases h; exact .base (.str x)
  | lst h1 _ => cases h; exact .base (.lst (s _ _ h1))
  | @tup a xs ds h1 h2 =>
    cases h
    rcases sqT_mono s h1 with (z | ⟨o, z⟩) | z
    · exact .base (.tup z)
    · exact .fTuple z
    · obtain ⟨o, its, n, z1, z2, z3⟩ := z
      exact .kTuple z1 z2
  | frz h1 h2 => cases h
  | obj h1 h2 => cases h
  | adr a => cases h
  | fn x => cases h
end
end HB
namespace HB
open PySem L2
/-! ### what is walked -/
abbrev Src := En → Option (List D)
/-- the iterator yields what the source tells, as things stand -/
def ItOk (K : PySem.W.Frag) (G : Hp) (σ : St) (Jt : It) (src : Src) (js : List Nat) : Prop := ∀ (i : Nat) (G2 : Hp) (ρ2 : En) (σ2 : St) (H2 : Hp) (items : List D), Same G G2 → J K G2 ρ2 σ2 H2 → (∀ j ∈ js, σ2[j]? = σ[j]?) → src ρ2 = some items →
  (∀ d, items[i]? = some d → Jt.go i H2 ∧ ∀ x H3, Jt.yld i H2 x H3 → ∃ G3, PX G2 H2 G3 H3 ∧ Rp K G3 x d) ∧ (items.length ≤ i → Jt.stop i H2)
def PostI (K : PySem.W.Frag) (E : XK) (js : List Nat) (G : Hp) (ρ : En) (σ : St) (H : Hp) (R : It → Hp → Prop) : Option (Except Exn (En × Src)) → Prop
  | none => False
  | some (.error x) => ∀ C dx H', XP K G ρ σ H x C dx H' → E C dx H'
  | some (.ok (ρ', src)) => ∀ G' H' Jt, Ex K G ρ σ H G' ρ' σ H' → ItOk K G' σ Jt src js → R Jt H'
def IV (X : Cx) (E : XK) (tg iter : Expr) (f : Mo Src) (js : List Nat) : Prop := ∃ wi, PI X tg iter wi ∧ ∀ G ρ σ H R, J X.K G ρ σ H → PostI X.K E js G ρ σ H R (f ρ) → wi σ H R
section
variable {X : Cx} {E : XK}
theorem PostI.imp {K : PySem.W.Frag} {js : List Nat} {G H : Hp} {ρ : En} {σ : St} {Rr : It → Hp → Prop} {γ δ : Type} {R' : Hp → δ → γ → Prop} {Q' : δ → Hp → Prop} {m : Mo γ} {f : γ → Mo Src} (h : PostI K E js G ρ σ H Rr (mBind m f ρ))
    (k : ∀ G1 ρ1 v H1 a, Ex K G ρ σ H G1 ρ1 σ H1 → R' G1 v a → PostI K E js G1 ρ1 σ H1 Rr (f a ρ1) → Q' v H1) : Post K E R' G ρ σ H Q' (m ρ) := by
  unfold mBind at h
  cases q : m ρ with
  | none => rw [q] at h; exact h
  | some r =>
    rw [q] at h
    cases r with
    | error x => exact h
    | ok p =>
      obtain ⟨ρ', a⟩ := p
      refine fun G' v H' z r => k G' ρ' v H' a z r ?_
      have h2 : PostI K E js G ρ σ H Rr (f a ρ') := h
      match hh : f a ρ', h2 with
      | some (.error x), h2 => exact fun C dx H' y => h2 C dx H' (XP.trans z y)
      | some (.ok (ρ2, ds)), h2 => exact fun G2 H2 Jt y r2 => h2 G2 H2 Jt (z.trans y) r2
theorem PostI.lift {K : PySem.W.Frag} {js : List Nat} {G H : Hp} {ρ : En} {σ : St} {Rr : It → Hp → Prop} {o : Option Src} (h : PostI K E js G ρ σ H Rr (mLift o ρ)) : ∃ a, o = some a ∧ ∀ G' H' Jt, Ex K G ρ σ H G' ρ σ H' → ItOk K G' σ Jt a js → Rr Jt H' := by
  cases o with
  | none => exact False.elim h
  | some a => exact ⟨a, rfl, h⟩
def constS (ds : List D) : Src := fun _ => some ds
/-- lists and tuples -/
def iSeq (K : PySem.W.Frag) (tl : TE) : TI := fun σ H R => tl σ H fun x H1 => ∃ a, x = .ref a ∧ (((∃ xs, SqL K H1 a xs) ∧ R (Itl K a) H1) ∨ ((∃ xs, SqT K H1 a xs) ∧ R (Itt K a) H1))
theorem pi_seq {tg l : Expr} {tl : TE} (hl : PE X l tl) : PI X tg l (iSeq X.K tl) :=
  PI.mk fun pins s σ H R I h => thn (hl.run pins s σ H _ I h) fun v s1 ⟨x, H1, I1, r1, a, e, q1⟩ => by
    subst e
    cases r1
    exact q1.elim
      (fun ⟨⟨_, hq⟩, q⟩ => have ⟨_, _, p, _⟩ := I1.list hq; wpAny_pyIter_list p.isList (pi_one I1 _ (turn_list a _) ⟨_, Heap.get?_push_size _ rfl, rfl, rfl⟩ q))
      (fun ⟨⟨_, hq⟩, q⟩ => have ⟨its, _, p, _⟩ := I1.tuple hq; wpAny_pyIter_tuple (items := its.toArray) p (pi_one I1 _ (turn_tuple a _) ⟨_, Heap.get?_push_size _ rfl, rfl, rfl⟩ q))
def mSeqS (f : Mo D) : Mo Src := mBind f fun d => mLift ((itemsD d).map constS)
theorem itl_ok {K : PySem.W.Frag} {G : Hp} {σ : St} {a : Addr} {xs : List V} {ds : List D} {js : List Nat} (h : SqL K G a xs) (r : RpAll K G xs ds) : ItOk K G σ (Itl K a) (constS ds) js := by
  intro i G2 ρ2 σ2 H2 items sg j _ e
  cases e
  have hs : SqL K H2 a xs := j.sub.seq (sg.seq h)
  refine ⟨fun d hd => ?_, fun hi => ⟨xs, hs, by rw [r.length]; exact hi⟩⟩
  obtain ⟨v, h1, h2⟩ := r.get hd
  refine ⟨⟨xs, v, hs, h1⟩, fun x H3 y => ?_⟩
  obtain ⟨rfl, y⟩ := y
  have e := Option.some.inj ((y xs hs).symm.trans h1)
  subst e
  exact ⟨G2, .refl j.sub, h2.mono sg⟩
theorem itt_ok {K : PySem.W.Frag} {G : Hp} {σ : St} {a : Addr} {xs : List V} {ds : List D} {js : List Nat} (h : SqT K G a xs) (r : RpAll K G xs ds) : ItOk K G σ (Itt K a) (constS ds) js := by
  intro i G2 ρ2 σ2 H2 items sg j _ e
  cases e
  have hs : SqT K H2 a xs := sqT_mono j.sub (sqT_mono sg h)
  refine ⟨fun d hd => ?_, fun hi => ⟨xs, hs, by rw [r.length]; exact hi⟩⟩
  obtain ⟨v, h1, h2⟩ := r.get hd
  refine ⟨⟨xs, v, hs, h1⟩, fun x H3 y => ?_⟩
  obtain ⟨rfl, y⟩ := y
  have e := Option.some.inj ((y xs hs).symm.trans h1)
  subst e
  exact ⟨G2, .refl j.sub, h2.mono sg⟩
theorem iv_seq {tg iter : Expr} {f : Mo D} (h : EV X E iter f) : IV X E tg iter (mSeqS f) [] := by
  obtain ⟨t, p, q⟩ := h
  refine ⟨_, pi_seq p, fun G ρ σ H R j h => q G ρ σ H _ j (PostI.imp h fun G1 ρ1 x H1 d e1 r1 h1 => ?_)⟩
  obtain ⟨src, hs, k⟩ := PostI.lift h1
  cases hi : itemsD d with
  | none => rw [hi] at hs; cases hs
  | some ds =>
    rw [hi] at hs
    cases hs
    obtain ⟨p0, xs, rfl, s0, r0⟩ := r1.items hi
    rcases s0 with s0 | s0
    · exact ⟨p0, rfl, .inr ⟨⟨xs, sqT_mono e1.j.sub s0⟩, k G1 H1 _ e1.j.refl (itt_ok s0 r0)⟩⟩
    · exact ⟨p0, rfl, .inl ⟨⟨xs, e1.j.sub.seq s0⟩, k G1 H1 _ e1.j.refl (itl_ok s0 r0)⟩⟩
/-- a list of the def's own -/
def ownS (j : Nat) : Src := fun ρ => match ρ[j]? with
  | some (.own ds) => some ds
  | _ => none
def mOwnS (i : Nat) : Mo Src := fun ρ => match ρ[i]? with
  | some (.own ds) => some (.ok (ρ, ownS i))
  | some (.pur d) => match itemsD d with
    | some ds => some (.ok (ρ, constS ds))
    | none => none
  | _ => none
theorem ownS_ok {K : PySem.W.Frag} {G : Hp} {σ : St} {i : Nat} {a : Addr} (h : σ[i]? = some (some (.ref a))) : ItOk K G σ (Itl K a) (ownS i) [i] := by
  intro n G2 ρ2 σ2 H2 items sg j hj e
  unfold ownS at e
  cases q : ρ2[i]? with
  | none => simp [q] at e
  | some s =>
    rw [q] at e
    cases s with
    | no => cases e
    | box _ => cases e
    | pur d => cases e
    | own ds =>
      have e := Option.some.inj e
      subst e
      obtain ⟨a', vs, h1, h2, h3, h4⟩ := j.own i _ ds q rfl
      rw [hj i List.mem_cons_self, h] at h1
      cases h1
      have hs : SqL K H2 a vs := .of h2
      refine ⟨fun d hd => ?_, fun hi => ⟨vs, hs, by rw [h4.length]; exact hi⟩⟩
      obtain ⟨v, q1, q2⟩ := h4.get hd
      refine ⟨⟨vs, v, hs, q1⟩, fun x H3 y => ?_⟩
      obtain ⟨rfl, y⟩ := y
      have e := Option.some.inj ((y vs hs).symm.trans q1)
      subst e
      exact ⟨G2, .refl j.sub, q2⟩
theorem iv_own {tg : Expr} (i : Nat) {x : Str} {pos : Pos} (hN : X.N[i]? = some x := by rfl) (hv : Vis X.env.scope x := by first | exact Or.inl rfl | exact Or.inr (Or.inl rfl) | exact Or.inr (Or.inr rfl)) (hd : (x == ("__debug__" : Str)) = false := by decide)
    (hcd : (x == ("__classdict__" : Str)) = false := by decide) : IV X E tg (.Name x pos) (mOwnS i) [i] := by
  refine ⟨_, pi_seq (pe_var hN hv hd hcd), fun G ρ σ H R j h => ?_⟩
  unfold mOwnS at h
  cases q : ρ[i]? with
  | none => rw [q] at h; exact h.elim
  | some s =>
    rw [q] at h
    cases s with
    | no => exact h.elim
    | box _ => exact h.elim
    | own ds =>
      obtain ⟨a, vs, h1, h2, h3, h4⟩ := j.own i _ ds q rfl
      exact ⟨_, h1, a, rfl, .inl ⟨⟨vs, .of h2⟩, h G H _ j.refl (ownS_ok h1)⟩⟩
    | pur d =>
      cases hi : itemsD d with
      | none => simp only [hi] at h; exact h.elim
      | some ds =>
        simp only [hi] at h
        obtain ⟨v, h1, h2⟩ := j.pur i d q
        obtain ⟨p0, xs, rfl, s0, r0⟩ := h2.items hi
        rcases s0 with s0 | s0
        · exact ⟨_, h1, p0, rfl, .inr ⟨⟨xs, sqT_mono j.sub s0⟩, h G H _ j.refl (itt_ok s0 r0)⟩⟩
        · exact ⟨_, h1, p0, rfl, .inl ⟨⟨xs, j.sub.seq s0⟩, h G H _ j.refl (itl_ok s0 r0)⟩⟩
/-- range -/
def rangeD (lo : Int) : Nat → List D
  | 0 => []
  | n + 1 => .int lo :: rangeD (lo + 1) n
theorem rangeD_get : ∀ (n : Nat) (lo : Int) (i : Nat), (rangeD lo n)[i]? = if i < n then some (.int (lo + i)) else none
  | 0, _, _ => by simp [rangeD]
  | n + 1, lo, 0 => by simp [rangeD]
  | n + 1, lo, i + 1 => by
    simp only [rangeD, List.getElem?_cons_succ, rangeD_get n (lo + 1) i]
    have e : lo + 1 + (i : Int) = lo + ((i + 1 : Nat) : Int) := by omega
    simp only [e, Nat.add_lt_add_iff_right]
theorem rangeD_len (lo : Int) (n : Nat) : (rangeD lo n).length = n := by
  induction n generalizing lo with
  | zero => rfl
  | succ n ih => simp [rangeD, ih]
theorem itr_ok {K : PySem.W.Frag} {G : Hp} {σ : St} {lo : Int} {n : Nat} {js : List Nat} : ItOk K G σ (Itr lo n) (constS (rangeD lo n)) js := by
  intro i G2 ρ2 σ2 H2 items sg j _ e
  cases e
  refine ⟨fun d hd => ?_, fun hi => by rw [rangeD_len] at hi; exact hi⟩
  rw [rangeD_get] at hd
  split at hd
  · rename_i hlt
    cases hd
    refine ⟨hlt, fun x H3 y => ?_⟩
    obtain ⟨rfl, rfl⟩ := y
    exact ⟨G2, .refl j.sub, .int _⟩
  · cases hd
def range1D : List D → Option Src
  | [.int j] => if -1000000000 ≤ j ∧ j ≤ 1000000000 then some (constS (rangeD 0 j.toNat)) else none
  | _ => none
def range2D : List D → Option Src
  | [.int i, .int j] => if -1000000000 ≤ i ∧ i ≤ 1000000000 ∧ -1000000000 ≤ j ∧ j ≤ 1000000000 then some (constS (rangeD i (j - i).toNat)) else none
  | _ => none
def mRange (f : List D → Option Src) (a : Mo (List D)) : Mo Src := mBind a fun ds => mLift (f ds)
theorem iv_range1 {tg a : Expr} {p pos : Pos} {f : Mo (List D)} (hm : X.mg "range" = none) (ha : EA X E [a] f) (hg : Gl X "range" := by rfl) (hs : starEach [a] X.env = [(false, eval a X.env)] := by rfl) : IV X E tg (.Call (.Name "range" p) [a] [] pos) (mRange range1D f) [] := by
  obtain ⟨t, pt, q⟩ := ha
  refine ⟨_, pi_range1 hg hm pt hs, fun G ρ σ H R j h => q G ρ σ H _ j (PostI.imp h fun G1 ρ1 vs H1 ds e1 r1 h1 => ?_)⟩
  obtain ⟨src, hs, k⟩ := PostI.lift h1
  match ds, hs with
  | [.int n], hs =>
    obtain ⟨hz, rfl⟩ := ite_some (show (if -1000000000 ≤ n ∧ n ≤ 1000000000 then some (constS (rangeD 0 n.toNat)) else none) = some src from hs)
    obtain ⟨x, rfl, r⟩ := r1.one
    cases r
    exact ⟨n, rfl, by omega, by omega, k G1 H1 _ e1.j.refl itr_ok⟩
theorem iv_range2 {tg a b : Expr} {p pos : Pos} {f : Mo (List D)} (hm : X.mg "range" = none) (ha : EA X E [a, b] f) (hg : Gl X "range" := by rfl) (hs : starEach [a, b] X.env = [(false, eval a X.env), (false, eval b X.env)] := by rfl) (hs2 : starEach [b] X.env = [(false, eval b X.env)] := by rfl) :
    IV X E tg (.Call (.Name "range" p) [a, b] [] pos) (mRange range2D f) [] := by
  obtain ⟨t, pt, q⟩ := ha
  refine ⟨_, pi_range2 hg hm pt hs hs2, fun G ρ σ H R j h => q G ρ σ H _ j (PostI.imp h fun G1 ρ1 vs H1 ds e1 r1 h1 => ?_)⟩
  obtain ⟨src, hs, k⟩ := PostI.lift h1
  match ds, hs with
  | [.int n, .int m], hs =>
    obtain ⟨hz, rfl⟩ := ite_some (show (if -1000000000 ≤ n ∧ n ≤ 1000000000 ∧ -1000000000 ≤ m ∧ m ≤ 1000000000 then some (constS (rangeD n (m - n).toNat)) else none) = some src from hs)
    obtain ⟨x, y, rfl, r, r2⟩ := r1.two
    cases r
    cases r2
    exact ⟨n, m, rfl, by omega, k G1 H1 _ e1.j.refl itr_ok⟩
/-! ### targets -/
/-- slots but for ws are as they were -/
def Sets (ws : List Nat) (σ σ' : St) : Prop := σ'.length = σ.length ∧ ∀ k, k ∉ ws → σ'[k]? = σ[k]?
theorem Sets.refl {ws : List Nat} {σ : St} : Sets ws σ σ := ⟨rfl, fun _ _ => rfl⟩
theorem Sets.trans {ws us : List Nat} {σ σ1 σ2 : St} (a : Sets ws σ σ1) (b : Sets us σ1 σ2) : Sets (ws ++ us) σ σ2 := ⟨b.1.trans a.1, fun k hk => (b.2 k fun z => hk (List.mem_append_right _ z)).trans (a.2 k fun z => hk (List.mem_append_left _ z))⟩
def GV (X : Cx) (tg : Expr) (g : D → En → Option En) (ws : List Nat) : Prop := ∃ t, PG X tg t ∧ ∀ G ρ σ H Q d v ρ', J X.K G ρ σ H → Rp X.K G v d → g d ρ = some ρ' → (∀ σ', Ex X.K G ρ σ H G ρ' σ' H → Sets ws σ σ' → Q σ' H) → t v σ H Q
def gSet (i : Nat) : D → En → Option En := fun d ρ => some (ρ.set i (.pur d))
theorem gv_name {i : Nat} {x : Str} {pos : Pos} (hN : X.N.Nodup) (hi : X.N[i]? = some x := by rfl) (hx : Loc X.env.scope x := by first | exact Or.inl rfl | exact Or.inr rfl) (hf : X.fn x = true ∨ X.env.scope.names.lookup x = some .local := by first | exact .inl rfl | exact .inr rfl | assumption) : GV X (.Name x pos) (gSet i) [i] :=
  ⟨_, pg_name hN hi hx hf, fun G ρ σ H Q d v ρ' j r h k => by cases h; exact k _ (Ex.set j i r) ⟨List.length_set, fun k hk => List.getElem?_set_ne fun e => hk (by rw [e]; exact List.mem_cons_self)⟩⟩
def GVs (X : Cx) (tgs : List Expr) (g : List D → En → Option En) (ws : List Nat) : Prop := ∃ t, PGs X tgs t ∧ ∀ G ρ σ H Q ds vs ρ', J X.K G ρ σ H → RpAll X.K G vs ds → g ds ρ = some ρ' → (∀ σ', Ex X.K G ρ σ H G ρ' σ' H → Sets ws σ σ' → Q σ' H) → t vs σ H Q
def gNilD : List D → En → Option En
  | [], ρ => some ρ
  | _, _ => none
def gConsD (g : D → En → Option En) (h : List D → En → Option En) : List D → En → Option En
  | d :: ds, ρ => (g d ρ).bind (h ds)
  | _, _ => none
theorem gvs_nil : GVs X [] gNilD [] := ⟨_, pgs_nil, fun G ρ σ H Q ds vs ρ' j r h k => by
  cases r with
  | nil => cases h; exact ⟨rfl, k σ j.refl .refl⟩
  | cons _ _ => cases h⟩
theorem gvs_cons {e : Expr} {es : List Expr} {g : D → En → Option En} {gs : List D → En → Option En} {ws us : List Nat} (h1 : GV X e g ws) (h2 : GVs X es gs us) (hs : (assignEach (e :: es) X.env).map (·.2) = assign e X.env :: (assignEach es X.env).map (·.2) := by rfl) : GVs X (e :: es) (gConsD g gs) (ws ++ us) := by
  obtain ⟨t, p, q⟩ := h1
  obtain ⟨u, p2, q2⟩ := h2
  refine ⟨_, pgs_cons p p2 hs, fun G ρ σ H Q ds vs ρ' j r h k => ?_⟩
  cases r with
  | nil => cases h
  | @cons v vr d dr hd ht =>
    have h' : (g d ρ).bind (gs dr) = some ρ' := h
    cases e1 : g d ρ with
    | none => rw [e1] at h'; cases h'
    | some ρ1 =>
      rw [e1] at h'
      exact ⟨_, _, rfl, q G ρ σ H _ d _ ρ1 j hd e1 fun σ1 x1 s1 => q2 G ρ1 σ1 H Q dr _ ρ' x1.j ht h' fun σ2 x2 s2 => k σ2 (x1.trans x2) (s1.trans s2)⟩
def gTupD (n : Nat) (g : List D → En → Option En) : D → En → Option En
  | .tuple ds, ρ => match Nat.beq ds.length n with
    | true => g ds ρ
    | false => none
  | _, _ => none
theorem gv_tup {es : List Expr} {k : Nat} {g : List D → En → Option En} {n : Nat} {ws : List Nat} {pos : Pos} (hc : X.calm = true) (h : GVs X es g ws) (hn : (assignEach es X.env).length = n := by rfl) (hst : (assignEach es X.env).findIdx? (·.1) = none := by rfl) : GV X (.Tuple es k pos) (gTupD n g) ws := by
  obtain ⟨t, p, q⟩ := h
  refine ⟨_, pg_tup hc p hn hst, fun G ρ σ H Q d v ρ' j r h k => ?_⟩
  cases r with
  | @tup a xs ds h1 h2 =>
    have h' : (match Nat.beq ds.length n with
      | true => g ds ρ
      | false => none) = some ρ' := h
    cases e : Nat.beq ds.length n with
    | false => rw [e] at h'; cases h'
    | true =>
      rw [e] at h'
      exact ⟨a, xs, rfl, sqT_mono j.sub h1, h2.length.trans (Nat.eq_of_beq_eq_true e), q G ρ σ H Q ds xs ρ' j h2 h' k⟩
  | _ => cases h
/-- target = value -/
def sAsg (g : D → En → Option En) (f : Mo D) : Mo Fl := mBind f fun d ρ => match g d ρ with
  | some ρ' => some (.ok (ρ', .nx))
  | none => none
theorem s_asg {tg e : Expr} {f : Mo D} {g : D → En → Option En} {ws : List Nat} {pos : Pos} (h : EV X E e f) (hg : GV X tg g ws) (hs : swapsWithSole [tg] e pos.line X.env = pure false := by rfl) (hw : swappedStores [tg] e X.env = pure none := by rfl)
    (ha : (assignEach [tg] X.env).map (·.2) = [assign tg X.env] := by rfl) : SV X E (.Assign [tg] e pos) (sAsg g f) := by
  obtain ⟨t, p, q⟩ := h
  obtain ⟨u, pg, qg⟩ := hg
  refine ⟨_, ps_asg p pg hs hw ha, fun G ρ σ H De j h => q G ρ σ H _ j (PostS.imp h fun G1 ρ1 v H1 d e1 r1 h1 => ?_)⟩
  have h1' : PostS X.K E G1 ρ1 σ H1 De (match g d ρ1 with
    | some ρ' => some (.ok (ρ', .nx))
    | none => none) := h1
  cases e : g d ρ1 with
  | none => rw [e] at h1'; exact h1'.elim
  | some ρ' =>
    rw [e] at h1'
    exact qg G1 ρ1 σ H1 _ d v ρ' e1.j r1 e fun σ' x _ => h1' G1 σ' H1 x
/-- a, b = x, y -/
def sPar (i j : Nat) (f : Mo (List D)) : Mo Fl := mBind f fun ds ρ => match ds with
  | [x, y] => some (.ok ((ρ.set i (.pur x)).set j (.pur y), .nx))
  | _ => none
theorem s_par {i j : Nat} {x y : Str} {a b : Expr} {f : Mo (List D)} {px py pt : Pos} {kt k2 : Nat} {pt2 pos : Pos} (hc : X.calm = true) (hN : X.N.Nodup) (h : EA X E [a, b] f) (hi : X.N[i]? = some x := by rfl) (hj : X.N[j]? = some y := by rfl) (hij : i ≠ j := by decide)
    (hx : X.env.scope.names.lookup x = some .local := by rfl) (hy : X.env.scope.names.lookup y = some .local := by rfl) (hw : swappedStores [.Tuple [.Name x px, .Name y py] kt pt] (.Tuple [a, b] k2 pt2) X.env = pure (some [x, y]) := by rfl) :
    SV X E (.Assign [.Tuple [.Name x px, .Name y py] kt pt] (.Tuple [a, b] k2 pt2) pos) (sPar i j f) := by
  obtain ⟨t, p, q⟩ := h
  refine ⟨_, ps_par hc hN hi hj hij hx hy p hw, fun G ρ σ H De j h => q G ρ σ H _ j (PostS.imp h fun G1 ρ1 vs H1 ds e1 r1 h1 => ?_)⟩
  match ds, h1 with
  | [d1, d2], h1 =>
    obtain ⟨x, y, rfl, r, r2⟩ := r1.two
    refine ⟨x, y, rfl, ?_⟩
    have x1 := Ex.set e1.j i r
    exact h1 G1 _ H1 (x1.trans (Ex.set x1.j _ r2))
/-- name op= e, ints -/
def sAug (op : Int → Int → Int) (i : Nat) (f : Mo D) : Mo Fl := fun ρ => match ρ[i]? with
  | some (.pur (.int a)) => mBind f (fun d => match d with
    | .int b => setSl i (.pur (.int (op a b)))
    | _ => fun _ => none) ρ
  | _ => none
theorem s_aug {i : Nat} {x : Str} {e : Expr} {f : Mo D} {op : Operator} {o : Int → Int → Int} {pos pos' : Pos} (ho : PIp X op (ipI o)) (hN : X.N.Nodup) (h : EV X E e f) (hi : X.N[i]? = some x := by rfl) (hx : Loc X.env.scope x := by first | exact Or.inl rfl | exact Or.inr rfl)
    (hf : X.fn x = true ∨ X.env.scope.names.lookup x = some .local := by first | exact .inl rfl | exact .inr rfl | assumption) : SV X E (.AugAssign (.Name x pos') op e pos) (sAug o i f) := by
  obtain ⟨t, p, q⟩ := h
  refine ⟨_, ps_aug hN hi hx p ho hf, fun G ρ σ H De j h => ?_⟩
  unfold sAug at h
  match hs : ρ[i]?, h with
  | some (.pur (.int a)), h =>
    obtain ⟨v, h1, h2⟩ := j.pur i _ hs
    cases h2
    refine ⟨_, h1, q G ρ σ H _ j (PostS.imp h fun G1 ρ1 y H1 d e1 r1 h1 => ?_)⟩
    cases r1 with
    | int b => exact ⟨a, b, rfl, rfl, h1 G1 _ H1 (Ex.set e1.j i (.int _))⟩
    | _ => exact h1.elim
/-! ### loops -/
/-- for x in items: body -/
def forL (g : D → En → Option En) (body : Mo Fl) : List D → Mo Fl
  | [] => fun ρ => some (.ok (ρ, .nx))
  | d :: ds => fun ρ => match g d ρ with
    | none => none
    | some ρ1 => match body ρ1 with
      | none => none
      | some (.error x) => some (.error x)
      | some (.ok (ρ2, .nx)) => forL g body ds ρ2
      | some (.ok (ρ2, .ct)) => forL g body ds ρ2
      | some (.ok (ρ2, .bk)) => some (.ok (ρ2, .nx))
      | some (.ok (ρ2, .rt d)) => some (.ok (ρ2, .rt d))
def sFor (src : Mo Src) (g : D → En → Option En) (body : Mo Fl) : Mo Fl := mBind src fun s ρ => match s [] with
  | none => none
  | some items => forL g body items ρ
/-- a source that tells the same whatever happens -/
def Const (s : Src) : Prop := ∀ ρ, s ρ = s []
theorem s_for {tg iter : Expr} {body : List Stmt} {src : Mo Src} {g : D → En → Option En} {b : Mo Fl} {ws : List Nat} {pos : Pos} (hp : PassesOwn (model X.prog X.w) X.A X.env X.xe) (hc : X.calm = true) (hi : IV X E tg iter src []) (hcs : ∀ ρ ρ' s, src ρ = some (.ok (ρ', s)) → Const s) (hg : GV X tg g ws) (hb : SVs X E body b)
    (hfs : ∀ x, foldedSetIterable iter X.env x = pure x := by intro _; rfl) : SV X E (.For tg iter body [] pos) (sFor src g b) := by
  obtain ⟨wi, pi, qi⟩ := hi
  obtain ⟨tg, pg, qg⟩ := hg
  obtain ⟨tb, pb, qb⟩ := hb
  refine ⟨_, ps_for hp hc pi pg pb hfs, fun G ρ σ H De j h => ?_⟩
  refine qi G ρ σ H _ j ?_
  unfold sFor mBind at h
  cases hs : src ρ with
  | none => rw [hs] at h; exact h
  | some r =>
    rw [hs] at h
    cases r with
    | error x => exact h
    | ok pr =>
      obtain ⟨ρ1, s⟩ := pr
      have hcon := hcs ρ ρ1 s hs
      intro G1 H1 Jt e1 hit
      have h' : PostS X.K E G ρ σ H De (match s [] with
        | none => none
        | some items => forL g b items ρ1) := h
      cases hi : s [] with
      | none => rw [hi] at h'; exact h'.elim
      | some items =>
        rw [hi] at h'
        refine ⟨fun i m σ2 H2 => m = items.length - i ∧ i ≤ items.length ∧ ∃ G2 ρ2, Ex X.K G1 ρ1 σ H1 G2 ρ2 σ2 H2 ∧ PostS X.K E G ρ σ H De (forL g b (items.drop i) ρ2), ⟨items.length, by omega, Nat.zero_le _, G1, ρ1, e1.j.refl, h'⟩, ?_⟩
        rintro i m σ2 H2 ⟨rfl, hile, G2, ρ2, e2, hpost⟩
        obtain ⟨hgo, hstop⟩ := hit i G2 ρ2 σ2 H2 items e2.g e2.j (fun _ z => nomatch z) ((hcon ρ2).trans hi)
        by_cases hlt : i < items.length
        · have hd : items[i]? = some items[i] := List.getElem?_eq_getElem hlt
          obtain ⟨go, yld⟩ := hgo _ hd
          rw [List.drop_eq_getElem_cons hlt] at hpost
          refine .inr ⟨go, fun σ' H' => ∃ G3 ρ3, Ex X.K G1 ρ1 σ H1 G3 ρ3 σ' H' ∧ PostS X.K E G ρ σ H De (forL g b (items.drop (i + 1)) ρ3), fun σ' H' ⟨G3, ρ3, e3, p3⟩ => ⟨items.length - (i + 1), by omega, rfl, hlt, G3, ρ3, e3, p3⟩, fun x H3 y => ?_⟩
          obtain ⟨G3, px, rx⟩ := yld x H3 y
          have e3 := e2.trans (e2.j.ex px)
          have hpost' : PostS X.K E G ρ σ H De (match g items[i] ρ2 with
            | none => none
            | some ρ1 => match b ρ1 with
              | none => none
              | some (.error x) => some (.error x)
              | some (.ok (ρ2, .nx)) => forL g b (items.drop (i + 1)) ρ2
              | some (.ok (ρ2, .ct)) => forL g b (items.drop (i + 1)) ρ2
              | some (.ok (ρ2, .bk)) => some (.ok (ρ2, .nx))
              | some (.ok (ρ2, .rt d)) => some (.ok (ρ2, .rt d))) := hpost
          cases eg : g items[i] ρ2 with
          | none => rw [eg] at hpost'; exact hpost'.elim
          | some ρ4 =>
            rw [eg] at hpost'
            refine qg G3 ρ2 σ2 H3 _ items[i] x ρ4 e3.j rx eg fun σ4 x4 _ => ?_
            have e4 := e3.trans x4
            have e04 := e1.trans e4
            refine qb G3 ρ4 σ4 H3 _ e4.j ?_
            cases eb : b ρ4 with
            | none => simp only [eb] at hpost'; exact hpost'.elim
            | some r =>
              cases r with
              | error x => simp only [eb] at hpost'; exact fun C dx H' z => hpost' C dx H' (XP.trans e04 z)
              | ok pr =>
                obtain ⟨ρ5, fl⟩ := pr
                cases fl with
                | nx => simp only [eb] at hpost'; exact fun G5 σ5 H5 x5 => ⟨G5, ρ5, e4.trans x5, hpost'⟩
                | ct => simp only [eb] at hpost'; exact fun G5 σ5 H5 x5 => ⟨G5, ρ5, e4.trans x5, hpost'⟩
                | bk => simp only [eb] at hpost'; exact fun G5 σ5 H5 x5 => hpost' G5 σ5 H5 (e04.trans x5)
                | rt d => simp only [eb] at hpost'; exact fun G5 σ5 v H5 x5 r => hpost' G5 σ5 v H5 (e04.trans x5) r
        · have e : i = items.length := by omega
          subst e
          rw [List.drop_length] at hpost
          exact .inl ⟨hstop (Nat.le_refl _), hpost G2 σ2 H2 (e1.trans e2)⟩
/-- while c: body, at most so many turns -/
def whileL (c : Mo Bool) (body : Mo Fl) : Nat → Mo Fl
  | 0 => fun _ => none
  | n + 1 => fun ρ => match c ρ with
    | none => none
    | some (.error x) => some (.error x)
    | some (.ok (ρ1, false)) => some (.ok (ρ1, .nx))
    | some (.ok (ρ1, true)) => match body ρ1 with
      | none => none
      | some (.error x) => some (.error x)
      | some (.ok (ρ2, .nx)) => whileL c body n ρ2
      | some (.ok (ρ2, .ct)) => whileL c body n ρ2
      | some (.ok (ρ2, .bk)) => some (.ok (ρ2, .nx))
      | some (.ok (ρ2, .rt d)) => some (.ok (ρ2, .rt d))
def sWhile (fuel : En → Nat) (c : Mo Bool) (body : Mo Fl) : Mo Fl := fun ρ => whileL c body (fuel ρ) ρ
theorem s_while {c : Expr} {body : List Stmt} {fc : Mo Bool} {b : Mo Fl} {pos : Pos} (fuel : En → Nat) (hp : PassesOwn (model X.prog X.w) X.A X.env X.xe) (hc : ET X E c fc) (hb : SVs X E body b) : SV X E (.While c body [] pos) (sWhile fuel fc b) := by
  obtain ⟨tc, pc, qc⟩ := hc
  obtain ⟨tb, pb, qb⟩ := hb
  refine ⟨_, ps_while hp pc pb, fun G ρ σ H De j h => ?_⟩
  refine ⟨fun m σ2 H2 => ∃ G2 ρ2, Ex X.K G ρ σ H G2 ρ2 σ2 H2 ∧ PostS X.K E G ρ σ H De (whileL fc b m ρ2), ⟨fuel ρ, G, ρ, j.refl, h⟩, ?_⟩
  rintro m σ2 H2 ⟨G2, ρ2, e2, hpost⟩
  cases m with
  | zero => exact hpost.elim
  | succ n =>
    have hpost' : PostS X.K E G ρ σ H De (match fc ρ2 with
      | none => none
      | some (.error x) => some (.error x)
      | some (.ok (ρ1, false)) => some (.ok (ρ1, .nx))
      | some (.ok (ρ1, true)) => match b ρ1 with
        | none => none
        | some (.error x) => some (.error x)
        | some (.ok (ρ2, .nx)) => whileL fc b n ρ2
        | some (.ok (ρ2, .ct)) => whileL fc b n ρ2
        | some (.ok (ρ2, .bk)) => some (.ok (ρ2, .nx))
        | some (.ok (ρ2, .rt d)) => some (.ok (ρ2, .rt d))) := hpost
    refine qc G2 ρ2 σ2 H2 _ e2.j ?_
    cases ec : fc ρ2 with
    | none => simp only [ec] at hpost'; exact hpost'.elim
    | some r =>
      cases r with
      | error x => simp only [ec] at hpost'; exact fun C dx H' z => hpost' C dx H' (XP.trans e2 z)
      | ok pr =>
        obtain ⟨ρ3, t⟩ := pr
        intro G3 t' H3 x3 ht
        subst ht
        have e3 := e2.trans x3
        cases t' with
        | false => simp only [ec] at hpost'; exact iteF (hpost' G3 σ2 H3 e3)
        | true =>
          simp only [ec] at hpost'
          refine iteT ⟨fun σ' H' => ∃ G4 ρ4, Ex X.K G ρ σ H G4 ρ4 σ' H' ∧ PostS X.K E G ρ σ H De (whileL fc b n ρ4), fun σ' H' ⟨G4, ρ4, x4, p4⟩ => ⟨n, Nat.lt_succ_self _, G4, ρ4, x4, p4⟩, ?_⟩
          refine qb G3 ρ3 σ2 H3 _ e3.j ?_
          cases eb : b ρ3 with
          | none => simp only [eb] at hpost'; exact hpost'.elim
          | some r =>
            cases r with
            | error x => simp only [eb] at hpost'; exact fun C dx H' z => hpost' C dx H' (XP.trans e3 z)
            | ok pr =>
              obtain ⟨ρ5, fl⟩ := pr
              cases fl with
              | nx => simp only [eb] at hpost'; exact fun G5 σ5 H5 x5 => ⟨G5, ρ5, e3.trans x5, hpost'⟩
              | ct => simp only [eb] at hpost'; exact fun G5 σ5 H5 x5 => ⟨G5, ρ5, e3.trans x5, hpost'⟩
              | bk => simp only [eb] at hpost'; exact fun G5 σ5 H5 x5 => hpost' G5 σ5 H5 (e3.trans x5)
              | rt d => simp only [eb] at hpost'; exact fun G5 σ5 v H5 x5 r => hpost' G5 σ5 v H5 (e3.trans x5) r
end
end HB
namespace HB
open PySem L2
/-! ### comprehensions -/
def wipeE (ρ : En) : List Nat → En
  | [] => ρ
  | v :: vs => (wipeE ρ vs).set v .no
def restE (ρ0 ρ : En) : List Nat → En
  | [] => ρ
  | v :: vs => (restE ρ0 ρ vs).set v (ρ0.getD v .no)
def noOwn (ρ : En) : List Nat → Bool
  | [] => true
  | v :: vs => match ρ[v]? with
    | some (.own _) => false
    | some (.box _) => false
    | _ => noOwn ρ vs
theorem wipeE_len (ρ : En) : ∀ vs, (wipeE ρ vs).length = ρ.length
  | [] => rfl
  | v :: vs => by unfold wipeE; rw [List.length_set, wipeE_len ρ vs]
theorem restE_len (ρ0 ρ : En) : ∀ vs, (restE ρ0 ρ vs).length = ρ.length
  | [] => rfl
  | v :: vs => by unfold restE; rw [List.length_set, restE_len ρ0 ρ vs]
theorem wipeE_get {ρ : En} {k : Nat} {s : Sl} : ∀ {vs : List Nat}, (wipeE ρ vs)[k]? = some s → s = .no ∨ (k ∉ vs ∧ ρ[k]? = some s)
  | [], h => .inr ⟨by simp, h⟩
  | v :: vs, h => by
    unfold wipeE at h
    rcases getElem?_set_cases h with ⟨_, z⟩ | ⟨z, h'⟩
    · exact .inl z
    · rcases wipeE_get h' with z2 | ⟨z2, z3⟩
      · exact .inl z2
      · exact .inr ⟨by simp only [List.mem_cons, not_or]; exact ⟨z, z2⟩, z3⟩
theorem restE_get {ρ0 ρ : En} {k : Nat} {s : Sl} : ∀ {vs : List Nat}, (restE ρ0 ρ vs)[k]? = some s → (k ∈ vs ∧ s = ρ0.getD k .no) ∨ (k ∉ vs ∧ ρ[k]? = some s)
  | [], h => .inr ⟨by simp, h⟩
  | v :: vs, h => by
    unfold restE at h
    rcases getElem?_set_cases h with ⟨z1, z⟩ | ⟨z, h'⟩
    · exact .inl ⟨by rw [z1]; exact List.mem_cons_self, by rw [z, z1]⟩
    · rcases restE_get h' with ⟨z2, z3⟩ | ⟨z2, z3⟩
      · exact .inl ⟨List.mem_cons_of_mem _ z2, z3⟩
      · exact .inr ⟨by simp only [List.mem_cons, not_or]; exact ⟨z, z2⟩, z3⟩
theorem noOwn_at {ρ : En} {k : Nat} {s : Sl} {ds : List D} (hl : s.ls = some ds) : ∀ {vs : List Nat}, noOwn ρ vs = true → k ∈ vs → ρ[k]? ≠ some s
  | [], _, h => by cases h
  | v :: vs, h, hk => by
    unfold noOwn at h
    rcases List.mem_cons.mp hk with e | hk
    · subst e
      intro z
      rw [z] at h
      cases s with
      | no => cases hl
      | pur d => cases hl
      | own es => cases h
      | box es => cases h
    · refine noOwn_at hl (vs := vs) ?_ hk
      split at h
      · cases h
      · cases h
      · exact h
section
variable {K : PySem.W.Frag} {G H G' H' : Hp} {ρ ρ' : En} {σ σ' : St}
theorem J.wipe (j : J K G ρ σ H) (vs : List Nat) : J K G (wipeE ρ vs) (wipe σ vs) H where
  sub := j.sub
  len := by rw [wipeE_len, wipe_length]; exact j.len
  pur := fun i d h => by
    rcases wipeE_get h with z | ⟨z, h'⟩
    · cases z
    · rw [wipe_out z]; exact j.pur i d h'
  own := fun i s ds h hl => by
    rcases wipeE_get h with z | ⟨z, h'⟩
    · subst z; cases hl
    · rw [wipe_out z]; exact j.own i s ds h' hl
  dis := fun i k s t ds es b h1 l1 h2 l2 h3 h4 => by
    rcases wipeE_get h1 with z | ⟨z, h1'⟩
    · subst z; cases l1
    · rcases wipeE_get h2 with z2 | ⟨z2, h2'⟩
      · subst z2; cases l2
      · rw [wipe_out z] at h3
        rw [wipe_out z2] at h4
        exact j.dis i k s t ds es b h1' l1 h2' l2 h3 h4
theorem wipe_ownd {vs : List Nat} {b : Addr} (h : Ownd (wipeE ρ vs) (wipe σ vs) b) : Ownd ρ σ b := by
  obtain ⟨i, s, ds, h1, hl, h2⟩ := h
  rcases wipeE_get h1 with z | ⟨z, h1'⟩
  · subst z; cases hl
  · rw [wipe_out z] at h2
    exact ⟨i, s, ds, h1', hl, h2⟩
theorem Ex.wiped (e : Ex K G ρ σ H G' ρ' σ' H') (vs : List Nat) : Ex K G ρ σ H G' (wipeE ρ' vs) (L2.wipe σ' vs) H' :=
  ⟨e.j.wipe vs, e.g, e.new, e.kept, fun b hb => e.ow b (wipe_ownd hb), e.dom, fun i ds h => by
    rcases wipeE_get h with z | ⟨z, h'⟩
    · cases z
    · obtain ⟨w1, w2⟩ := e.bx i ds h'
      exact ⟨w1, by rw [wipe_out z]; exact w2⟩⟩
theorem wipe_ext {vs : List Nat} (h : Sets vs σ σ') : wipe σ' vs = wipe σ vs := by
  have key : ∀ (us : List Nat) (k : Nat) (τ : St), k < τ.length → (k ∈ us → (wipe τ us)[k]? = some none) := by
    intro us
    induction us with
    | nil => intro k τ _ hk; cases hk
    | cons u us ih =>
      intro k τ hl hk
      unfold L2.wipe
      by_cases hu : k = u
      · subst hu
        exact List.getElem?_set_self (by rw [wipe_length]; exact hl)
      · rw [List.getElem?_set_ne (Ne.symm hu)]
        exact ih k τ hl ((List.mem_cons.mp hk).resolve_left hu)
  apply List.ext_getElem?
  intro k
  by_cases hk : k ∈ vs
  · by_cases hl : k < σ.length
    · rw [key vs k σ hl hk, key vs k σ' (by rw [h.1]; exact hl) hk]
    · rw [List.getElem?_eq_none (by rw [wipe_length, h.1]; omega), List.getElem?_eq_none (by rw [wipe_length]; omega)]
  · rw [wipe_out hk, wipe_out hk]
    exact h.2 k hk
theorem rest_ownd {vs : List Nat} (no : noOwn ρ vs = true) {b : Addr} (h : Ownd (restE ρ ρ' vs) σ b) : Ownd ρ' (wipe σ vs) b := by
  obtain ⟨i, s0, ds, h1, hl, h2⟩ := h
  rcases restE_get h1 with ⟨z, h1'⟩ | ⟨z, h1'⟩
  · exfalso
    rw [List.getD_eq_getElem?_getD] at h1'
    cases q : ρ[i]? with
    | none => rw [q] at h1'; subst h1'; cases hl
    | some s =>
      rw [q] at h1'
      have e1 : s = s0 := h1'.symm
      subst e1
      exact noOwn_at hl no z q
  · exact ⟨i, s0, ds, h1', hl, by rw [wipe_out z]; exact h2⟩
theorem rest_out {vs : List Nat} (no : noOwn ρ vs = true) {m : Nat} {s0 : Sl} {fs : List D} (hm : (restE ρ ρ' vs)[m]? = some s0) (hl : s0.ls = some fs) : m ∉ vs ∧ ρ'[m]? = some s0 := by
  rcases restE_get hm with ⟨z, h'⟩ | z
  · exfalso
    rw [List.getD_eq_getElem?_getD] at h'
    cases q : ρ[m]? with
    | none => rw [q] at h'; subst h'; cases hl
    | some s =>
      rw [q] at h'
      have e1 : s = s0 := h'.symm
      subst e1
      exact noOwn_at hl no z q
  · exact z
/-- a thing of the block's own is changed -/
theorem Ex.poke {G1 H1 : Hp} {ρ1 : En} {σ1 : St} (e : Ex K G1 ρ1 σ1 H1 G ρ σ H) {p : Addr} {o : HO} (h1 : H1 p = none) (h2 : G p = none) (no : ¬ Ownd ρ σ p) : Ex K G1 ρ1 σ1 H1 G ρ σ (upd H p o) := by
  refine ⟨⟨fun b x q => ?_, e.j.len, e.j.pur, fun i s ds q hl => ?_, e.j.dis⟩, e.g, e.new, fun b x q n => ?_, e.ow, fun b hb => ?_, e.bx⟩
  · rw [upd_ne (ne_of_none q h2)]
    exact e.j.sub _ _ q
  · obtain ⟨a, vs, q1, q2, q3, q4⟩ := e.j.own i s ds q hl
    have ne : a ≠ p := fun z => by
      subst z
      exact no ⟨i, s, ds, q, hl, q1⟩
    exact ⟨a, vs, q1, by rw [upd_ne ne]; exact q2, q3, q4⟩
  · rw [upd_ne (ne_of_none q h1)]
    exact e.kept b x q n
  · by_cases z : b = p
    · subst z; exact h1
    · rw [upd_ne z] at hb
      exact e.dom b hb
/-- out of the block -/
theorem Ex.rest {vs : List Nat} (j : J K G ρ σ H) (no : noOwn ρ vs = true) (e : Ex K G (wipeE ρ vs) (wipe σ vs) H G' ρ' (wipe σ vs) H') : Ex K G ρ σ H G' (restE ρ ρ' vs) σ H' := by
  refine ⟨⟨e.j.sub, ?_, fun i d h => ?_, fun i s0 ds h hl => ?_, fun i k s0 t0 ds es b h1 l1 h2 l2 h3 h4 => ?_⟩, e.g, fun b hb => ?_, fun b o q n => e.kept b o q fun z => n (wipe_ownd z), fun b hb => ?_, e.dom, fun i ds h => ?_⟩
  · rw [restE_len, e.j.len, wipe_length]
  · rcases restE_get h with ⟨z, h'⟩ | ⟨z, h'⟩
    · rw [List.getD_eq_getElem?_getD] at h'
      cases q : ρ[i]? with
      | none => rw [q] at h'; cases h'
      | some s =>
        rw [q] at h'
        have e1 : s = .pur d := h'.symm
        subst e1
        obtain ⟨v, h1, h2⟩ := j.pur i d q
        exact ⟨v, h1, h2.mono e.g⟩
    · obtain ⟨v, h1, h2⟩ := e.j.pur i d h'
      rw [wipe_out z] at h1
      exact ⟨v, h1, h2⟩
  · obtain ⟨z, h'⟩ := rest_out no h hl
    obtain ⟨a, vs', h1, h2⟩ := e.j.own i s0 ds h' hl
    rw [wipe_out z] at h1
    exact ⟨a, vs', h1, h2⟩
  · obtain ⟨z1, h1'⟩ := rest_out no h1 l1
    obtain ⟨z2, h2'⟩ := rest_out no h2 l2
    exact e.j.dis i k s0 t0 ds es b h1' l1 h2' l2 (by rw [wipe_out z1]; exact h3) (by rw [wipe_out z2]; exact h4)
  · rcases e.new b hb with z | z | z
    · exact .inl z
    · exact .inr (.inl z)
    · exact .inr (.inr (wipe_ownd z))
  · rcases e.ow b (rest_ownd no hb) with z | z
    · exact .inl (wipe_ownd z)
    · exact .inr z
  · obtain ⟨z, h'⟩ := rest_out no h rfl
    obtain ⟨⟨es, w1⟩, w2⟩ := e.bx i ds h'
    rcases wipeE_get w1 with w3 | ⟨w3, w4⟩
    · cases w3
    · exact ⟨⟨es, w4⟩, rfl⟩
end
/-- turn by turn, as things stand -/
def lcI (vs : List Nat) (src : Src) (g : D → En → Option En) (test : Mo Bool) (elt : Mo D) : Nat → Nat → En → Option (En × List D)
  | 0, _, _ => none
  | n + 1, i, ρ => match src ρ with
    | none => none
    | some items => match items[i]? with
      | none => some (ρ, [])
      | some d => match g d ρ with
        | none => none
        | some ρ1 => match test ρ1 with
          | some (.ok (ρ2, true)) => match elt ρ2 with
            | some (.ok (ρ3, y)) => match lcI vs src g test elt n (i + 1) (wipeE ρ3 vs) with
              | some (ρ4, ys) => some (ρ4, y :: ys)
              | none => none
            | _ => none
          | some (.ok (ρ2, false)) => lcI vs src g test elt n (i + 1) (wipeE ρ2 vs)
          | _ => none
def mBlk (vs : List Nat) (src : Mo Src) (body : Src → En → Option (En × List D)) : Mo (List D) := mBind src fun s ρ => match noOwn ρ vs with
  | false => none
  | true => match body s (wipeE ρ vs) with
    | none => none
    | some (ρ', ys) => some (.ok (restE ρ ρ' vs, ys))
def tE (K : PySem.W.Frag) (E : XK) (f : Mo D) : TE := fun σ H Q => ∃ G ρ, J K G ρ σ H ∧ Post K E (Rp K) G ρ σ H Q (f ρ)
def tT (K : PySem.W.Frag) (E : XK) (f : Mo Bool) : TT := fun σ H Q => ∃ G ρ, J K G ρ σ H ∧ Post K E (fun _ b c => b = c) G ρ σ H Q (f ρ)
def tG (K : PySem.W.Frag) (g : D → En → Option En) (ws : List Nat) : TG := fun v σ H Q => ∃ G ρ d ρ', J K G ρ σ H ∧ Rp K G v d ∧ g d ρ = some ρ' ∧ ∀ σ', Ex K G ρ σ H G ρ' σ' H → Sets ws σ σ' → Q σ' H
section
variable {X : Cx} {E : XK}
theorem EV.pe {e : Expr} {f : Mo D} (h : EV X E e f) : PE X e (tE X.K E f) := by
  obtain ⟨t, p, q⟩ := h
  exact ⟨fun pins s σ H Q I ⟨G, ρ, j, z⟩ => p.run pins s σ H Q I (q G ρ σ H Q j z)⟩
theorem ET.pt {e : Expr} {f : Mo Bool} (h : ET X E e f) : PT X e (tT X.K E f) := by
  obtain ⟨t, p, q⟩ := h
  exact ⟨fun pins s σ H Q I ⟨G, ρ, j, z⟩ => p.run pins s σ H Q I (q G ρ σ H Q j z)⟩
theorem GV.pg {e : Expr} {g : D → En → Option En} {ws : List Nat} (h : GV X e g ws) : PG X e (tG X.K g ws) := by
  obtain ⟨t, p, q⟩ := h
  exact ⟨fun pins s σ H v u Q I r ⟨G, ρ, d, ρ', j, z, eg, k⟩ => p.run pins s σ H v u Q I r (q G ρ σ H Q d v ρ' j z eg k)⟩
/-- the tests of a clause -/
def EIf (X : Cx) (E : XK) (ifs : List Expr) (f : Mo Bool) : Prop := PTs X ifs (tT X.K E f)
theorem eif_nil : EIf X E [] (mRet true) := ⟨fun pins s σ H Q I ⟨G, ρ, j, z⟩ => pts_nil.run pins s σ H Q I (z G true H j.refl rfl)⟩
theorem eif_one {c : Expr} {f : Mo Bool} (h : ET X E c f) : EIf X E [c] f := pts_one h.pt
theorem lc_sem {wi : TI} {src : Mo Src} {js vs : List Nat} {g : D → En → Option En} {ws : List Nat} {test : Mo Bool} {elt : Mo D} (fuel : Nat) (hf : fuel ≤ 1000000)
    (qi : ∀ G ρ σ H R, J X.K G ρ σ H → PostI X.K E js G ρ σ H R (src ρ) → wi σ H R) (hjs : ∀ j ∈ js, j ∉ vs) (hws : ∀ k ∈ ws, k ∈ vs) :
    ∀ G ρ σ H Q, J X.K G ρ σ H → PostN X.K E G ρ σ H Q (mBlk vs src (fun s ρ => lcI vs s g test elt fuel 0 ρ) ρ) → tLc wi (tG X.K g ws) (tT X.K E0 test) (tE X.K E0 elt) vs σ H Q := by
  intro G ρ σ H Q j h
  refine qi G ρ σ H _ j ?_
  unfold mBlk mBind at h
  cases hs : src ρ with
  | none => rw [hs] at h; exact h
  | some r =>
    rw [hs] at h
    cases r with
    | error x => exact h
    | ok pr =>
      obtain ⟨ρ1, s⟩ := pr
      intro G1 H1 Jt e1 hit Dd hD
      have h' : PostN X.K E G ρ σ H Q (match noOwn ρ1 vs with
        | false => none
        | true => match lcI vs s g test elt fuel 0 (wipeE ρ1 vs) with
          | none => none
          | some (ρ', ys) => some (.ok (restE ρ1 ρ' vs, ys))) := h
      cases hno : noOwn ρ1 vs with
      | false => rw [hno] at h'; exact h'.elim
      | true =>
        simp only [hno] at h'
        cases hl : lcI vs s g test elt fuel 0 (wipeE ρ1 vs) with
        | none => simp only [hl] at h'; exact h'.elim
        | some out =>
          obtain ⟨ρE, ys⟩ := out
          simp only [hl] at h'
          have shD : Same H1 (upd H1 Dd (.lst [])) := same_upd hD
          have hGD : G1 Dd = none := e1.j.sub.free hD
          have x0 : Ex X.K G1 (wipeE ρ1 vs) (wipe σ vs) H1 G1 (wipeE ρ1 vs) (wipe σ vs) (upd H1 Dd (.lst [])) := new_list (e1.j.wipe vs) hD .nil
          refine ⟨fun i m H2 => ∃ (G2 : Hp) (ρ2 : En) (vacc : List V) (dacc rest : List D) (n : Nat), m = n ∧ n + i = fuel ∧ Ex X.K G1 (wipeE ρ1 vs) (wipe σ vs) H1 G2 ρ2 (wipe σ vs) H2 ∧ G2 Dd = none ∧ ¬ Ownd ρ2 (wipe σ vs) Dd ∧ H2 Dd = some (.lst vacc) ∧ RpAll X.K G2 vacc dacc ∧ dacc.length ≤ i ∧ lcI vs s g test elt n i ρ2 = some (ρE, rest) ∧ dacc ++ rest = ys,
            ⟨fuel, G1, wipeE ρ1 vs, [], [], ys, fuel, rfl, by omega, x0, hGD, (e1.j.wipe vs).nown hD, upd_same, .nil, Nat.le_refl _, hl, rfl⟩, ?_⟩
          rintro i m H2 ⟨G2, ρ2, vacc, dacc, rest, n, rfl, hfu, e2, hG2, hno2, hH2, racc, hla, hlc, hys⟩
          cases m with
          | zero => cases hlc
          | succ n =>
            unfold lcI at hlc
            cases hsrc : s ρ2 with
            | none => rw [hsrc] at hlc; cases hlc
            | some items =>
              rw [hsrc] at hlc
              obtain ⟨hgo, hstop⟩ := hit i G2 ρ2 (wipe σ vs) H2 items e2.g e2.j (fun jx hjx => wipe_out (hjs jx hjx)) hsrc
              cases hitem : items[i]? with
              | none =>
                simp only [hitem] at hlc
                cases hlc
                rw [List.append_nil] at hys
                subst hys
                have hle : items.length ≤ i := List.getElem?_eq_none_iff.mp hitem
                refine .inl ⟨hstop hle, ?_⟩
                have xr := Ex.rest e1.j hno e2
                refine h' G2 (.ref Dd) H2 (e1.trans xr) ⟨Dd, vacc, rfl, e1.dom _ hD, hG2, hH2, ?_, racc⟩
                exact fun z => hno2 (rest_ownd hno z)
              | some d =>
                obtain ⟨go, yld⟩ := hgo d hitem
                simp only [hitem] at hlc
                refine .inr ⟨go, fun H6 => ∃ (G6 : Hp) (ρ6 : En) (vacc' : List V) (dacc' rest' : List D), Ex X.K G1 (wipeE ρ1 vs) (wipe σ vs) H1 G6 ρ6 (wipe σ vs) H6 ∧ G6 Dd = none ∧ ¬ Ownd ρ6 (wipe σ vs) Dd ∧ H6 Dd = some (.lst vacc') ∧ RpAll X.K G6 vacc' dacc' ∧ dacc'.length ≤ i + 1 ∧ lcI vs s g test elt n (i + 1) ρ6 = some (ρE, rest') ∧ dacc' ++ rest' = ys,
                  fun H6 ⟨G6, ρ6, va, da, re, k1, k2, k3, k4, k5, k6, k7, k8⟩ => ⟨n, Nat.lt_succ_self _, G6, ρ6, va, da, re, n, rfl, by omega, k1, k2, k3, k4, k5, k6, k7, k8⟩, fun x H3 y => ?_⟩
                obtain ⟨G3, px, rx⟩ := yld x H3 y
                have e3 : Ex X.K G2 ρ2 (wipe σ vs) H2 G3 ρ2 (wipe σ vs) H3 := e2.j.ex px
                cases eg : g d ρ2 with
                | none => simp only [eg] at hlc; cases hlc
                | some ρ3 =>
                  simp only [eg] at hlc
                  refine ⟨G3, ρ2, d, ρ3, e3.j, rx, eg, fun σ4 x4 s4 => ⟨?_, G3, ρ3, x4.j, ?_⟩⟩
                  · have s5 : Sets vs (wipe σ vs) σ4 := ⟨s4.1, fun k hk => s4.2 k fun z => hk (hws k z)⟩
                    rw [wipe_ext s5]
                    exact wipe_ext ⟨wipe_length σ vs, fun k hk => wipe_out hk⟩
                  · have ew : wipe σ4 vs = wipe σ vs := by
                      have s5 : Sets vs (wipe σ vs) σ4 := ⟨s4.1, fun k hk => s4.2 k fun z => hk (hws k z)⟩
                      rw [wipe_ext s5]
                      exact wipe_ext ⟨wipe_length σ vs, fun k hk => wipe_out hk⟩
                    have e4 := e3.trans x4
                    cases et : test ρ3 with
                    | none => simp only [et] at hlc; cases hlc
                    | some rt =>
                      cases rt with
                      | error x => simp only [et] at hlc; cases hlc
                      | ok pt =>
                        obtain ⟨ρ5, b⟩ := pt
                        intro G5 b' H5 x5 hb
                        subst hb
                        have e5 := e4.trans x5
                        have out : ∀ {G7 : Hp} {ρ7 : En} {H7 : Hp}, Ex X.K G2 ρ2 (wipe σ vs) H2 G7 ρ7 σ4 H7 → Ex X.K G1 (wipeE ρ1 vs) (wipe σ vs) H1 G7 (wipeE ρ7 vs) (wipe σ vs) H7 ∧ G7 Dd = none ∧ ¬ Ownd (wipeE ρ7 vs) (wipe σ vs) Dd ∧ H7 Dd = some (.lst vacc) := by
                          intro G7 ρ7 H7 e7
                          have w7 := (e2.trans e7).wiped vs
                          rw [ew] at w7
                          refine ⟨w7, ?_, fun z => ?_, e7.kept Dd _ hH2 hno2⟩
                          · cases q : G7 Dd with
                            | none => rfl
                            | some o =>
                              rcases e7.new Dd (by rw [q]; simp) with z | z | z
                              · exact absurd hG2 z
                              · rw [hH2] at z; cases z
                              · exact absurd z hno2
                          · have w8 := e7.wiped vs
                            rw [ew] at w8
                            rcases w8.ow Dd z with z | z
                            · exact hno2 z
                            · rw [hH2] at z; cases z
                        cases b' with
                        | false =>
                          simp only [et] at hlc
                          obtain ⟨o1, o2, o3, o4⟩ := out e5
                          exact iteF ⟨G5, _, vacc, dacc, rest, o1, o2, o3, o4, racc.mono e5.g, by omega, hlc, hys⟩
                        | true =>
                          simp only [et] at hlc
                          refine iteT ⟨G5, ρ5, e5.j, ?_⟩
                          cases ee : elt ρ5 with
                          | none => simp only [ee] at hlc; cases hlc
                          | some re =>
                            cases re with
                            | error x => simp only [ee] at hlc; cases hlc
                            | ok pe =>
                              obtain ⟨ρ7, yd⟩ := pe
                              intro G7 yv H7 x7 ry
                              have e7 := e5.trans x7
                              simp only [ee] at hlc
                              cases er : lcI vs s g test elt n (i + 1) (wipeE ρ7 vs) with
                              | none => simp only [er] at hlc; cases hlc
                              | some ro =>
                                obtain ⟨ρ8, rest'⟩ := ro
                                simp only [er] at hlc
                                cases hlc
                                obtain ⟨o1, o2, o3, o4⟩ := out e7
                                refine ⟨vacc, o4, ?_, G7, _, vacc ++ [yv], dacc ++ [yd], rest', o1.poke hD o2 o3, o2, o3, upd_same, (racc.mono e7.g).append (.cons ry .nil), ?_, er, ?_⟩
                                · rw [racc.length]
                                  exact Nat.lt_of_lt_of_le (show dacc.length < 1000000 by omega) (by decide)
                                · simp only [List.length_append, List.length_singleton]
                                  omega
                                · rw [List.append_assoc]
                                  exact hys
/-- for sources that tell the same: by the list -/
def lcL (vs : List Nat) (g : D → En → Option En) (test : Mo Bool) (elt : Mo D) : List D → En → Option (En × List D)
  | [], ρ => some (ρ, [])
  | d :: ds, ρ => match g d ρ with
    | none => none
    | some ρ1 => match test ρ1 with
      | some (.ok (ρ2, true)) => match elt ρ2 with
        | some (.ok (ρ3, y)) => match lcL vs g test elt ds (wipeE ρ3 vs) with
          | some (ρ4, ys) => some (ρ4, y :: ys)
          | none => none
        | _ => none
      | some (.ok (ρ2, false)) => lcL vs g test elt ds (wipeE ρ2 vs)
      | _ => none
theorem lcI_of {vs : List Nat} {src : Src} {g : D → En → Option En} {test : Mo Bool} {elt : Mo D} {items : List D} (hc : ∀ ρ, src ρ = some items) : ∀ (n i : Nat) (ds : List D) (ρ : En) (r : En × List D), items.drop i = ds → ds.length < n → lcL vs g test elt ds ρ = some r → lcI vs src g test elt n i ρ = some r
  | 0, _, _, _, _, _, h, _ => absurd h (Nat.not_lt_zero _)
  | n + 1, i, [], ρ, r, hd, _, h => by
    unfold lcI
    rw [hc ρ]
    have e : items[i]? = none := by
      rw [List.getElem?_eq_none_iff]
      exact List.drop_eq_nil_iff.mp hd
    simp only [e]
    exact h
  | n + 1, i, d :: ds, ρ, r, hd, hl, h => by
    unfold lcI
    rw [hc ρ]
    have e : items[i]? = some d := by
      have e2 := congrArg (·[0]?) hd
      simpa using e2
    have e3 : items.drop (i + 1) = ds := by
      have e4 : (items.drop i).drop 1 = ds := by rw [hd]; rfl
      rw [List.drop_drop] at e4
      exact e4
    have hl2 : ds.length < n := by
      rw [List.length_cons] at hl
      omega
    simp only [e]
    unfold lcL at h
    cases eg : g d ρ with
    | none => simp only [eg] at h; cases h
    | some ρ1 =>
      simp only [eg] at h ⊢
      cases et : test ρ1 with
      | none => simp only [et] at h; cases h
      | some rt =>
        cases rt with
        | error x => simp only [et] at h; cases h
        | ok pt =>
          obtain ⟨ρ2, b⟩ := pt
          cases b with
          | false =>
            simp only [et] at h ⊢
            exact lcI_of hc n (i + 1) ds _ r e3 hl2 h
          | true =>
            simp only [et] at h ⊢
            cases ee : elt ρ2 with
            | none => simp only [ee] at h; cases h
            | some re =>
              cases re with
              | error x => simp only [ee] at h; cases h
              | ok pe =>
                obtain ⟨ρ3, y⟩ := pe
                simp only [ee] at h ⊢
                cases er : lcL vs g test elt ds (wipeE ρ3 vs) with
                | none => simp only [er] at h; cases h
                | some ro =>
                  simp only [er] at h
                  rw [lcI_of hc n (i + 1) ds _ ro e3 hl2 er]
                  exact h
def lcBody (vs : List Nat) (g : D → En → Option En) (test : Mo Bool) (elt : Mo D) : Src → En → Option (En × List D) := fun s ρ => match s [] with
  | none => none
  | some items => match Nat.blt items.length 1000000 with
    | false => none
    | true => lcL vs g test elt items ρ
/-- a comprehension -/
def LC (X : Cx) (E : XK) (elt tg iter : Expr) (ifs : List Expr) (scope : Scope) (f : Mo (List D)) : Prop := ∃ wi g tt te own, PI X tg iter wi ∧ BlkOk X.N X.env.scope scope own ∧
  (∀ (s : Shared) (H : Hp) (C : Addr) (cl : List (Str × Addr)) (fp : List Addr), PG (X.blk s H scope (compEnvC scope cl C X.env) fp) tg g) ∧ (∀ (s : Shared) (H : Hp) (C : Addr) (cl : List (Str × Addr)) (fp : List Addr), PTs (X.blk s H scope (compEnvC scope cl C X.env) fp) ifs tt) ∧
  (∀ (s : Shared) (H : Hp) (C : Addr) (cl : List (Str × Addr)) (fp : List Addr), PE (X.blk s H scope (compEnvC scope cl C X.env) fp) elt te) ∧ (∀ x, foldedSetIterable iter X.env x = pure x) ∧
  ∀ G ρ σ H Q, J X.K G ρ σ H → PostN X.K E G ρ σ H Q (f ρ) → tLc wi g tt te (own.map (·.2)) σ H Q
theorem lc_I {elt tg iter : Expr} {ifs : List Expr} {scope : Scope} {own : List (Str × Nat)} {src : Mo Src} {js ws : List Nat} {g : D → En → Option En} {test : Mo Bool} {fe : Mo D} (hi : IV X E tg iter src js) (ok : BlkOk X.N X.env.scope scope own)
    (hg : ∀ (s : Shared) (H : Hp) (C : Addr) (cl : List (Str × Addr)) (fp : List Addr), GV (X.blk s H scope (compEnvC scope cl C X.env) fp) tg g ws) (ht : ∀ (s : Shared) (H : Hp) (C : Addr) (cl : List (Str × Addr)) (fp : List Addr), EIf (X.blk s H scope (compEnvC scope cl C X.env) fp) E0 ifs test)
    (he : ∀ (s : Shared) (H : Hp) (C : Addr) (cl : List (Str × Addr)) (fp : List Addr), EV (X.blk s H scope (compEnvC scope cl C X.env) fp) E0 elt fe) (hjs : ∀ j ∈ js, j ∉ own.map (·.2) := by decide) (hws : ∀ k ∈ ws, k ∈ own.map (·.2) := by decide) (hs : ∀ x, foldedSetIterable iter X.env x = pure x := by intro _; rfl) :
    LC X E elt tg iter ifs scope (mBlk (own.map (·.2)) src fun s ρ => lcI (own.map (·.2)) s g test fe 1000000 0 ρ) := by
  obtain ⟨wi, pi, qi⟩ := hi
  exact ⟨wi, tG X.K g ws, tT X.K E0 test, tE X.K E0 fe, own, pi, ok, fun s H C cl fp => (hg s H C cl fp).pg, ht, fun s H C cl fp => (he s H C cl fp).pe, hs, lc_sem 1000000 (Nat.le_refl _) qi hjs hws⟩
theorem LC.by {elt tg iter : Expr} {ifs : List Expr} {scope : Scope} {f f' : Mo (List D)} (h : LC X E elt tg iter ifs scope f) (k : ∀ ρ r, f' ρ = some r → f ρ = some r) : LC X E elt tg iter ifs scope f' := by
  obtain ⟨wi, g, tt, te, own, h1, h2, h3, h4, h5, h6, q⟩ := h
  refine ⟨wi, g, tt, te, own, h1, h2, h3, h4, h5, h6, fun G ρ σ H Q j h => q G ρ σ H Q j ?_⟩
  cases e : f' ρ with
  | none => rw [e] at h; exact h.elim
  | some r => rw [k ρ r e]; rw [e] at h; exact h
theorem LC.en {elt tg iter : Expr} {ifs : List Expr} {scope : Scope} {f : Mo (List D)} {pos : Pos} (h : LC X E elt tg iter ifs scope f) (hc : X.calm = true) (hN : X.N.Nodup) : EN X E (.ListComp elt [⟨tg, iter, ifs, 0⟩] scope pos) f := by
  obtain ⟨wi, g, tt, te, own, h1, h2, h3, h4, h5, h6, q⟩ := h
  exact ⟨_, pe_lc hc hN h1 h2 h3 h4 h5 h6, q⟩
theorem LC.set {elt tg iter : Expr} {ifs : List Expr} {scope : Scope} {f : Mo (List D)} {pos spos : Pos} {i : Nat} {y : Str} {py : Pos} (h : LC X E elt tg iter ifs scope f) (hc : X.calm = true) (hN : X.N.Nodup) (hsw : swapsWith (.ListComp elt [⟨tg, iter, ifs, 0⟩] scope pos) (some (.Name y py)) spos.line X.env = pure true)
    (hy : X.N[i]? = some y := by rfl) (hyl : X.env.scope.names.lookup y = some .local := by rfl) : SV X E (.Assign [.Name y py] (.ListComp elt [⟨tg, iter, ifs, 0⟩] scope pos) spos) (sSet i (mList f)) := by
  obtain ⟨wi, g, tt, te, own, h1, h2, h3, h4, h5, h6, q⟩ := h
  refine ⟨_, ps_setLc hc hN hy hyl hsw h1 h2 h3 h4 h5 h6, fun G ρ σ H De j h => q G ρ σ H _ j ?_⟩
  unfold sSet mList mBind at h
  cases hh : f ρ with
  | none => simp only [hh] at h; exact h
  | some r =>
    cases r with
    | error x => simp only [hh] at h; exact h
    | ok pr =>
      obtain ⟨ρ', ds⟩ := pr
      simp only [hh] at h
      intro G' v H' e r
      obtain ⟨a, vs, rfl, z1, z2, z3, no, z4⟩ := r
      have e2 := e.still z1 z2 z3 no
      exact h _ _ H' (e2.trans (Ex.set e2.j i (.lst upd_same (z4.mono (same_upd z2)))))
theorem LC.own {elt tg iter : Expr} {ifs : List Expr} {scope : Scope} {f : Mo (List D)} {pos spos : Pos} {i : Nat} {y : Str} {py : Pos} (h : LC X E elt tg iter ifs scope f) (hc : X.calm = true) (hN : X.N.Nodup) (hsw : swapsWith (.ListComp elt [⟨tg, iter, ifs, 0⟩] scope pos) (some (.Name y py)) spos.line X.env = pure true)
    (hy : X.N[i]? = some y := by rfl) (hyl : X.env.scope.names.lookup y = some .local := by rfl) : SV X E (.Assign [.Name y py] (.ListComp elt [⟨tg, iter, ifs, 0⟩] scope pos) spos) (sOwn i f) := by
  obtain ⟨wi, g, tt, te, own, h1, h2, h3, h4, h5, h6, q⟩ := h
  refine ⟨_, ps_setLc hc hN hy hyl hsw h1 h2 h3 h4 h5 h6, fun G ρ σ H De j h => q G ρ σ H _ j ?_⟩
  unfold sOwn mBind at h
  cases hh : f ρ with
  | none => simp only [hh] at h; exact h
  | some r =>
    cases r with
    | error x => simp only [hh] at h; exact h
    | ok pr =>
      obtain ⟨ρ', ds⟩ := pr
      simp only [hh] at h
      exact fun G' v H' e r => h G' _ H' (e.setOwn i r)
theorem EN.by {e : Expr} {f f' : Mo (List D)} (h : EN X E e f) (k : ∀ ρ r, f' ρ = some r → f ρ = some r) : EN X E e f' := by
  obtain ⟨t, p, q⟩ := h
  refine ⟨t, p, fun G ρ σ H Q j h => q G ρ σ H Q j ?_⟩
  cases e : f' ρ with
  | none => rw [e] at h; exact h.elim
  | some r => rw [k ρ r e]; rw [e] at h; exact h
theorem blk_by {vs : List Nat} {src : Mo Src} {g : D → En → Option En} {test : Mo Bool} {fe : Mo D} (hcs : ∀ ρ ρ' s, src ρ = some (.ok (ρ', s)) → Const s) : ∀ ρ r, mBlk vs src (lcBody vs g test fe) ρ = some r → mBlk vs src (fun s ρ => lcI vs s g test fe 1000000 0 ρ) ρ = some r := by
  intro ρ r h
  unfold mBlk mBind at h ⊢
  cases hs : src ρ with
  | none => simp only [hs] at h; cases h
  | some o =>
    cases o with
    | error x => simp only [hs] at h ⊢; exact h
    | ok p =>
      obtain ⟨ρ1, s⟩ := p
      have hcon := hcs ρ ρ1 s hs
      simp only [hs] at h ⊢
      cases hno : noOwn ρ1 vs with
      | false => simp only [hno] at h; cases h
      | true =>
        simp only [hno] at h ⊢
        unfold lcBody at h
        cases hi : s [] with
        | none => simp only [hi] at h; cases h
        | some items =>
          simp only [hi] at h
          cases hb : Nat.blt items.length 1000000 with
          | false => simp only [hb] at h; cases h
          | true =>
            simp only [hb] at h
            cases hl : lcL vs g test fe items (wipeE ρ1 vs) with
            | none => simp only [hl] at h; cases h
            | some ro =>
              simp only [hl] at h
              have hlt : items.length < 1000000 := by
                unfold Nat.blt at hb
                exact Nat.le_of_ble_eq_true hb
              rw [lcI_of (fun ρ => (hcon ρ).trans hi) 1000000 0 items _ ro (by simp) hlt hl]
              exact h
theorem lc_c {elt tg iter : Expr} {ifs : List Expr} {scope : Scope} {own : List (Str × Nat)} {src : Mo Src} {ws : List Nat} {g : D → En → Option En} {test : Mo Bool} {fe : Mo D} (hi : IV X E tg iter src []) (hcs : ∀ ρ ρ' s, src ρ = some (.ok (ρ', s)) → Const s) (ok : BlkOk X.N X.env.scope scope own)
    (hg : ∀ (s : Shared) (H : Hp) (C : Addr) (cl : List (Str × Addr)) (fp : List Addr), GV (X.blk s H scope (compEnvC scope cl C X.env) fp) tg g ws) (ht : ∀ (s : Shared) (H : Hp) (C : Addr) (cl : List (Str × Addr)) (fp : List Addr), EIf (X.blk s H scope (compEnvC scope cl C X.env) fp) E0 ifs test)
    (he : ∀ (s : Shared) (H : Hp) (C : Addr) (cl : List (Str × Addr)) (fp : List Addr), EV (X.blk s H scope (compEnvC scope cl C X.env) fp) E0 elt fe) (hws : ∀ k ∈ ws, k ∈ own.map (·.2) := by decide) (hs : ∀ x, foldedSetIterable iter X.env x = pure x := by intro _; rfl) :
    LC X E elt tg iter ifs scope (mBlk (own.map (·.2)) src (lcBody (own.map (·.2)) g test fe)) :=
  (lc_I hi ok hg ht he (fun _ z => nomatch z) hws hs).by (blk_by hcs)
/-- sources that tell the same -/
theorem const_seq {f : Mo D} : ∀ ρ ρ' s, mSeqS f ρ = some (.ok (ρ', s)) → Const s := by
  intro ρ ρ' s h
  unfold mSeqS mBind mLift at h
  cases e : f ρ with
  | none => simp only [e] at h; cases h
  | some o =>
    cases o with
    | error x => simp only [e] at h; cases h
    | ok p =>
      obtain ⟨ρ1, d⟩ := p
      simp only [e] at h
      cases hi : itemsD d with
      | none => simp only [hi, Option.map] at h; cases h
      | some ds =>
        simp only [hi, Option.map] at h
        cases h
        exact fun _ => rfl
theorem const_range1 {f : Mo (List D)} : ∀ ρ ρ' s, mRange range1D f ρ = some (.ok (ρ', s)) → Const s := by
  intro ρ ρ' s h
  unfold mRange mBind mLift at h
  cases e : f ρ with
  | none => simp only [e] at h; cases h
  | some o =>
    cases o with
    | error x => simp only [e] at h; cases h
    | ok p =>
      obtain ⟨ρ1, ds⟩ := p
      simp only [e] at h
      cases hi : range1D ds with
      | none => simp only [hi] at h; cases h
      | some src =>
        simp only [hi] at h
        cases h
        match ds, hi with
        | [.int j], hi =>
          obtain ⟨_, rfl⟩ := ite_some (show (if -1000000000 ≤ j ∧ j ≤ 1000000000 then some (constS (rangeD 0 j.toNat)) else none) = some s from hi)
          exact fun _ => rfl
theorem const_range2 {f : Mo (List D)} : ∀ ρ ρ' s, mRange range2D f ρ = some (.ok (ρ', s)) → Const s := by
  intro ρ ρ' s h
  unfold mRange mBind mLift at h
  cases e : f ρ with
  | none => simp only [e] at h; cases h
  | some o =>
    cases o with
    | error x => simp only [e] at h; cases h
    | ok p =>
      obtain ⟨ρ1, ds⟩ := p
      simp only [e] at h
      cases hi : range2D ds with
      | none => simp only [hi] at h; cases h
      | some src =>
        simp only [hi] at h
        cases h
        match ds, hi with
        | [.int i, .int j], hi =>
          obtain ⟨_, rfl⟩ := ite_some (show (if -1000000000 ≤ i ∧ i ≤ 1000000000 ∧ -1000000000 ≤ j ∧ j ≤ 1000000000 then some (constS (rangeD i (j - i).toNat)) else none) = some s from hi)
          exact fun _ => rfl
end
end HB
namespace HB
open PySem L2
section
variable {X : Cx} {E : XK}
/-! ### isinstance -/
def isIntT : D → Option Bool
  | .bool _ => some true
  | .int _ => some true
  | .dict _ => none
  | _ => some false
def isBoolT : D → Option Bool
  | .bool _ => some true
  | .dict _ => none
  | _ => some false
def isStrT : D → Option Bool
  | .str _ => some true
  | .dict _ => none
  | _ => some false
def isTupT : D → Option Bool
  | .tuple _ => some true
  | .dict _ => none
  | _ => some false
def isLstT : D → Option Bool
  | .list _ => some true
  | .dict _ => none
  | _ => some false
def isSeqT : D → Option Bool
  | .list _ => some true
  | .tuple _ => some true
  | .dict _ => none
  | _ => some false
def IsTab (T : String) (tb : D → Option Bool) : Prop := ∀ d b, tb d = some b → ∃ n, tyD d = some n ∧ kitB n T = some b
theorem tab_int : IsTab "int" isIntT := by
  intro d b h
  cases d <;> first
    | (cases h; exact ⟨_, rfl, by decide +kernel⟩)
    | (cases h; done)
theorem tab_bool : IsTab "bool" isBoolT := by
  intro d b h
  cases d <;> first
    | (cases h; exact ⟨_, rfl, by decide +kernel⟩)
    | (cases h; done)
theorem tab_str : IsTab "str" isStrT := by
  intro d b h
  cases d <;> first
    | (cases h; exact ⟨_, rfl, by decide +kernel⟩)
    | (cases h; done)
theorem tab_tup : IsTab "tuple" isTupT := by
  intro d b h
  cases d <;> first
    | (cases h; exact ⟨_, rfl, by decide +kernel⟩)
    | (cases h; done)
theorem tab_lst : IsTab "list" isLstT := by
  intro d b h
  cases d <;> first
    | (cases h; exact ⟨_, rfl, by decide +kernel⟩)
    | (cases h; done)
def mIsi (tb : D → Option Bool) (f : Mo D) : Mo D := mBind f fun d => mLift ((tb d).map .bool)
theorem ev_isi {T : String} {x : Str} {tb : D → Option Bool} {e : Expr} {f : Mo D} {p p2 pos : Pos} (ht : IsTab T tb) (h : EV X E e f) (hm : X.mg "isinstance" = none) (hmT : X.mg x = none) (hvT : bootBuiltins x = some (.type T)) (hn : x ≠ "__name__" := by decide) (hdb : (x == ("__debug__" : Str)) = false := by decide)
    (hg : Gl X "isinstance" := by rfl) (hgT : Gl X x := by rfl) (he : starEach [e, .Name x p2] X.env = (false, eval e X.env) :: starEach [.Name x p2] X.env := by rfl) (hpl : (backTo pos (starEach [.Name x p2] X.env)).any (·.1) = false := by rfl) : EV X E (.Call (.Name "isinstance" p) [e, .Name x p2] [] pos) (mIsi tb f) := by
  obtain ⟨t, pt, q⟩ := h
  refine ⟨_, pe_callB call_isi hg hm (by decide +kernel) (pa_cons pt (pa_cons (pe_bltn (v := .ty T) hgT hmT hvT rfl hn hdb) pa_nil) he) (by decide) (by decide) he hpl, fun G ρ σ H Q j h => q G ρ σ H _ j (Post.imp h fun G1 ρ1 v H1 d e1 r1 h1 => ?_)⟩
  obtain ⟨c, hc, k⟩ := Post.lift (ρ' := ρ1) h1
  cases hb : tb d with
  | none => rw [hb] at hc; cases hc
  | some b =>
    rw [hb] at hc
    cases hc
    obtain ⟨n, h2, h3⟩ := ht d b hb
    exact ⟨v, .ty T, .type n, .type T, b, rfl, .ty T, r1.ty e1.j.sub h2, kit_ty h3, k G1 _ H1 e1.j.refl (.bl b)⟩
/-- isinstance(x, (list, tuple)) -/
theorem ev_isiLT {e : Expr} {f : Mo D} {p p2 p3 p4 pos : Pos} {kk : Nat} (h : EV X E e f) (hm : X.mg "isinstance" = none) (hmL : X.mg "list" = none) (hmT : X.mg "tuple" = none)
    (hg : Gl X "isinstance" := by rfl) (hgL : Gl X "list" := by rfl) (hgT : Gl X "tuple" := by rfl) (he : starEach [e, .Tuple [.Name "list" p2, .Name "tuple" p3] kk p4] X.env = (false, eval e X.env) :: starEach [.Tuple [.Name "list" p2, .Name "tuple" p3] kk p4] X.env := by rfl) (hpl : (backTo pos (starEach [.Tuple [.Name "list" p2, .Name "tuple" p3] kk p4] X.env)).any (·.1) = false := by rfl) :
    EV X E (.Call (.Name "isinstance" p) [e, .Tuple [.Name "list" p2, .Name "tuple" p3] kk p4] [] pos) (mIsi isSeqT f) := by
  obtain ⟨t, pt, q⟩ := h
  refine ⟨_, pe_callB call_isiT hg hm (by decide +kernel) (pa_cons pt (pa_cons (pe_tup (pa_cons (pe_bltn (v := .ty "list") hgL hmL (by decide +kernel) rfl) (pa_cons (pe_bltn (v := .ty "tuple") hgT hmT (by decide +kernel) rfl) pa_nil))) pa_nil) he) (by decide) (by decide) he hpl, fun G ρ σ H Q j h => q G ρ σ H _ j (Post.imp h fun G1 ρ1 v H1 d e1 r1 h1 => ?_)⟩
  obtain ⟨c, hc, k⟩ := Post.lift (ρ' := ρ1) h1
  refine ⟨by show 2 ≤ sizeLine; decide, fun tp htp => ?_⟩
  have sh : Same H1 (upd H1 tp (.tup [.ty "list", .ty "tuple"])) := same_upd htp
  have x2 : Ex X.K G1 ρ1 σ H1 G1 ρ1 σ (upd H1 tp (.tup [.ty "list", .ty "tuple"])) := by
    refine ⟨⟨e1.j.sub.trans sh, e1.j.len, e1.j.pur, fun i s ds e hl => ?_, e1.j.dis⟩, .refl _, fun b hb => .inl hb, fun b o e _ => sh _ _ e, fun b hb => .inl hb, fun b hb => sh.free hb, fun i ds h => ⟨⟨ds, h⟩, rfl⟩⟩
    obtain ⟨a, vs, z1, z2, z3, z4⟩ := e1.j.own i s ds e hl
    exact ⟨a, vs, z1, sh _ _ z2, z3, z4⟩
  have key : ∀ b, isSeqT d = some b → ∃ n, tyD d = some n ∧ PySem.W.kitAny X.K (.type n) [.type "list", .type "tuple"] = some b := by
    intro b hb
    cases d <;> first
      | (cases hb; exact ⟨_, rfl, by kernel_rfl⟩)
      | (cases hb; done)
  cases hb : isSeqT d with
  | none => rw [hb] at hc; cases hc
  | some b =>
    rw [hb] at hc
    cases hc
    obtain ⟨n, h2, h3⟩ := key b hb
    exact ⟨v, tp, [.ty "list", .ty "tuple"], .type n, [.type "list", .type "tuple"], b, rfl, upd_same, .cons (.ty _) (.cons (.ty _) .nil), r1.ty x2.j.sub h2, h3, k G1 _ _ x2 (.bl b)⟩
/-! ### slices -/
def mNoPart : Mo (Option Int) := mRet none
def intOf : D → Option Int
  | .int i => some i
  | _ => none
def mPart (f : Mo D) : Mo (Option Int) := mBind f fun d => mLift ((intOf d).map some)
def EO (X : Cx) (E : XK) (e : Option Expr) (f : Mo (Option Int)) : Prop := ∃ t, PO X e t ∧ ∀ G ρ σ H Q, J X.K G ρ σ H → Post X.K E (fun _ b c => b = c) G ρ σ H Q (f ρ) → t σ H Q
theorem eo_none : EO X E none mNoPart := ⟨_, po_none, fun G ρ σ H Q j h => h G none H j.refl rfl⟩
theorem eo_some {e : Expr} {f : Mo D} (h : EV X E e f) : EO X E (some e) (mPart f) := by
  obtain ⟨t, p, q⟩ := h
  refine ⟨_, po_some p, fun G ρ σ H Q j h => q G ρ σ H _ j (Post.imp h fun G1 ρ1 v H1 d e1 r1 h1 => ?_)⟩
  obtain ⟨c, hc, k⟩ := Post.lift (ρ' := ρ1) h1
  cases r1 with
  | int i => cases hc; exact ⟨i, rfl, k G1 _ H1 e1.j.refl rfl⟩
  | _ => cases hc
def cutD {α : Type} (xs : List α) (lo hi : Option Int) : List α := (xs.drop (HT.sIx xs.length 0 lo)).take (HT.sIx xs.length xs.length hi - HT.sIx xs.length 0 lo)
theorem RpAll.cut {K : PySem.W.Frag} {G : Hp} {vs : List V} {ds : List D} (r : RpAll K G vs ds) (lo hi : Option Int) : RpAll K G (cutV vs lo hi) (cutD ds lo hi) := by
  unfold cutV cutD
  rw [r.length]
  exact (r.drop _).take _
def slD (lo hi : Option Int) : D → Option D
  | .list ds => some (.list (cutD ds lo hi))
  | .tuple ds => some (.tuple (cutD ds lo hi))
  | .dict [(.none, .list ds)] => some (.list (cutD ds lo hi))
  | .str z => if z.length ≤ 1000000 then some (.str (cutS z lo hi)) else none
  | _ => none
def mSlice (f : Mo D) (lo hi : Mo (Option Int)) : Mo D := mBind f fun d => mBind lo fun l => mBind hi fun h => mLift (slD l h d)
theorem cutV_all {xs : List V} {lo hi : Option Int} (h1 : HT.sIx xs.length 0 lo = 0) (h2 : HT.sIx xs.length xs.length hi = xs.length) : cutV xs lo hi = xs := by
  unfold cutV
  rw [h1, h2]
  simp
theorem ev_slice {e : Expr} {lo hi : Option Expr} {f : Mo D} {fl fh : Mo (Option Int)} {p2 pos : Pos} (h : EV X E e f) (hl : EO X E lo fl) (hh : EO X E hi fh) : EV X E (.Subscript e (.Slice lo hi none p2) pos) (mSlice f fl fh) := by
  obtain ⟨t, p, q⟩ := h
  obtain ⟨tl, pl, ql⟩ := hl
  obtain ⟨th, ph, qh⟩ := hh
  refine ⟨_, pe_slice (sl_list.or (sl_tupA.or sl_str)) p pl ph, fun G ρ σ H Q j h => q G ρ σ H _ j (Post.imp h fun G1 ρ1 v H1 d e1 r1 h1 => ?_)⟩
  refine ql G1 ρ1 σ H1 _ e1.j (Post.imp h1 fun G2 ρ2 l H2 l' e2 rl h2 => ?_)
  subst rl
  refine qh G2 ρ2 σ H2 _ e2.j (Post.imp h2 fun G3 ρ3 u H3 u' e3 ru h3 => ?_)
  subst ru
  obtain ⟨c, hc, k⟩ := Post.lift (ρ' := ρ3) h3
  have r3 : Rp X.K G3 v d := (r1.mono e2.g).mono e3.g
  have s3 := e3.j.sub
  cases r3 with
  | @lst a xs ds z1 z2 =>
    cases hc
    refine .inl ⟨a, xs, rfl, .of (s3 _ _ z1), fun p hp => ?_⟩
    have px : PX G3 H3 _ _ := .alloc s3 hp (.lst (cutV xs l u))
    exact k _ _ _ (e3.j.ex px) (.lst upd_same ((z2.cut l u).mono px.g))
  | @tup a xs ds z1 z2 =>
    cases hc
    refine .inr (.inl ⟨a, xs, rfl, sqT_mono s3 z1, fun hw => ?_, fun _ p hp => ?_⟩)
    · have e := z2.cut l u
      rw [cutV_all hw.1 hw.2] at e
      exact k G3 _ H3 e3.j.refl (.tup z1 e)
    · have px : PX G3 H3 _ _ := .alloc s3 hp (.tup (cutV xs l u))
      exact k _ _ _ (e3.j.ex px) (.tup (.of upd_same) ((z2.cut l u).mono px.g))
  | @frz a xs ds z1 z2 =>
    cases hc
    refine .inl ⟨a, xs, rfl, s3.seq z1, fun p hp => ?_⟩
    have px : PX G3 H3 _ _ := .alloc s3 hp (.lst (cutV xs l u))
    exact k _ _ _ (e3.j.ex px) (.lst upd_same ((z2.cut l u).mono px.g))
  | str z =>
    obtain ⟨h4, rfl⟩ := ite_some (show (if z.length ≤ 1000000 then some (PyData.str (cutS z l u)) else none) = some c from hc)
    exact .inr (.inr ⟨z, rfl, line_of h4, k G3 _ H3 e3.j.refl (.str _)⟩)
  | obj z1 z2 => cases hc
  | _ => cases hc
/-! ### fields -/
def fldIn (f : Str) : List (D × D) → Option D
  | [] => none
  | (.str g, d) :: r => if g = f then some d else fldIn f r
  | _ :: _ => none
def fldD (c f : Str) : D → Option D
  | .dict ((.str c', .none) :: kvs) => if c' = c then fldIn f kvs else none
  | _ => none
theorem RpF.look {K : PySem.W.Frag} {G : Hp} {f : Str} : ∀ {fs : List (Str × V)} {kvs : List (D × D)} {d : D}, RpF K G fs kvs → fldIn f kvs = some d → ∃ v, fs.lookup f = some v ∧ Rp K G v d
  | _, _, _, .nil, h => by cases h
  | _, _, d, @RpF.cons _ _ g v fs e kvs h t, q => by
    have q' : (if g = f then some e else fldIn f kvs) = some d := q
    by_cases z : g = f
    · rw [if_pos z] at q'
      cases q'
      subst z
      exact ⟨v, by simp [List.lookup], h⟩
    · rw [if_neg z] at q'
      obtain ⟨v', h1, h2⟩ := RpF.look t q'
      refine ⟨v', ?_, h2⟩
      have e1 : (f == g) = false := beq_eq_false_iff_ne.mpr (Ne.symm z)
      simp only [List.lookup, e1]
      exact h1
theorem ev_fld {e : Expr} {f : Mo D} {c a : Str} {pos : Pos} (h : EV X E e f) (hc : Cls X.K (He.ga X.K c)) (hn : NoAttr X.K (He.ga X.K c) a) (hb : attributeBase e a X.env (eval e X.env) = eval e X.env := by rfl) : EV X E (.Attribute e a pos) (mUn (fldD c a) f) := by
  obtain ⟨t, p, q⟩ := h
  refine ⟨_, pe_fld p hb, fun G ρ σ H Q j h => q G ρ σ H _ j (Post.imp h fun G1 ρ1 v H1 d e1 r1 h1 => ?_)⟩
  obtain ⟨y, hy, k⟩ := Post.lift (ρ' := ρ1) h1
  cases r1 with
  | @obj ad dx c' fs kvs z1 z2 =>
    obtain ⟨rfl, h3⟩ : c' = c ∧ fldIn a kvs = some y := by
      have hy' : (if c' = c then fldIn a kvs else none) = some y := hy
      split at hy'
      · rename_i q
        exact ⟨q, hy'⟩
      · cases hy'
    obtain ⟨v', h4, h5⟩ := z2.look h3
    exact ⟨ad, _, dx, fs, v', rfl, e1.j.sub _ _ z1, hc, hn, h4, k G1 _ H1 e1.j.refl h5⟩
  | frz z1 z2 => cases hy
  | _ => cases hy
/-! ### a list of the def's own -/
/-- xs.append(e), a statement -/
def sChg (i : Nat) (f : Mo (List D)) (c : List D → List D → Option (List D)) : Mo Fl := fun ρ => match ρ[i]? with
  | some (.own _) => mBind f (fun as ρ1 => match ρ1[i]? with
    | some (.own ds) => match c ds as with
      | some es => some (.ok (ρ1.set i (.own es), .nx))
      | none => none
    | _ => none) ρ
  | _ => none
def appC : List D → List D → Option (List D)
  | ds, [d] => match Nat.blt ds.length 1000000 with
    | true => some (ds ++ [d])
    | false => none
  | _, _ => none
def extC : List D → List D → Option (List D)
  | ds, [.list es] => match Nat.blt (ds.length + es.length) 1000000 with
    | true => some (ds ++ es)
    | false => none
  | _, _ => none
/-- another list in its place -/
def Sl.put : Sl → List D → Sl
  | .own _, es => .own es
  | .box _, es => .box es
  | s, _ => s
theorem Sl.put_ls {s : Sl} {ds es : List D} (h : s.ls = some ds) : (s.put es).ls = some es := by
  cases s with
  | no => cases h
  | pur d => cases h
  | own _ => rfl
  | box _ => rfl
/-- the slot's list is changed -/
theorem J.putS {K : PySem.W.Frag} {G H : Hp} {ρ : En} {σ : St} (j : J K G ρ σ H) {i : Nat} {s : Sl} {ds es : List D} {a : Addr} {ws : List V} (h : ρ[i]? = some s) (hl : s.ls = some ds) (ha : σ[i]? = some (some (.ref a))) (r : RpAll K G ws es) : Ex K G ρ σ H G (ρ.set i (s.put es)) σ (upd H a (.lst ws)) := by
  obtain ⟨a', vs, h1, h2, h3, h4⟩ := j.own i s ds h hl
  rw [ha] at h1
  cases h1
  have hi : i < ρ.length := (List.getElem?_eq_some_iff.mp h).1
  have od : Ownd ρ σ a := ⟨i, s, ds, h, hl, ha⟩
  have np : ∀ d, s.put es ≠ .pur d := fun d => by
    cases s with
    | no => cases hl
    | pur d => cases hl
    | own _ => intro z; cases z
    | box _ => intro z; cases z
  have c : ∀ (m : Nat) (t : Sl) (us : List D), (ρ.set i (s.put es))[m]? = some t → t.ls = some us → ∃ t' us', ρ[m]? = some t' ∧ t'.ls = some us' := fun m t us hm ht => by
    rcases getElem?_set_cases hm with ⟨z1, _⟩ | ⟨_, z⟩
    · subst z1; exact ⟨s, ds, h, hl⟩
    · exact ⟨t, us, z, ht⟩
  refine ⟨⟨fun b o q => ?_, by rw [List.length_set]; exact j.len, fun k d q => ?_, fun k t fs q ht => ?_, fun k l t u fs gs b q1 l1 q2 l2 q3 q4 => ?_⟩, .refl _, fun b hb => .inl hb, fun b o q n => ?_, fun b hb => ?_, fun b hb => ?_, fun k fs q => ?_⟩
  · rw [upd_ne (ne_of_none q h3)]
    exact j.sub _ _ q
  · rcases getElem?_set_cases q with ⟨_, z⟩ | ⟨_, q'⟩
    · exact absurd z.symm (np d)
    · exact j.pur k d q'
  · rcases getElem?_set_cases q with ⟨z1, z⟩ | ⟨z1, q'⟩
    · subst z
      subst z1
      rw [Sl.put_ls hl] at ht
      cases ht
      exact ⟨a, ws, ha, upd_same, h3, r⟩
    · obtain ⟨b, us, g1, g2, g3, g4⟩ := j.own k t fs q' ht
      have ne : b ≠ a := fun z => by
        subst z
        exact z1 (j.dis k i t s fs ds b q' ht h hl g1 ha)
      exact ⟨b, us, g1, by rw [upd_ne ne]; exact g2, g3, g4⟩
  · obtain ⟨t1, u1, c1, c2⟩ := c k t fs q1 l1
    obtain ⟨t2, u2, c3, c4⟩ := c l u gs q2 l2
    exact j.dis k l t1 t2 u1 u2 b c1 c2 c3 c4 q3 q4
  · have ne : b ≠ a := fun z => by
      subst z
      exact n od
    rw [upd_ne ne]
    exact q
  · obtain ⟨k, t, us, q1, l1, q2⟩ := hb
    obtain ⟨t1, u1, c1, c2⟩ := c k t us q1 l1
    exact .inl ⟨k, t1, u1, c1, c2, q2⟩
  · by_cases z : b = a
    · subst z; rw [upd_same] at hb; cases hb
    · rw [upd_ne z] at hb; exact hb
  · rcases getElem?_set_cases q with ⟨z1, z⟩ | ⟨z1, q'⟩
    · subst z1
      cases s with
      | no => cases hl
      | pur d => cases hl
      | own _ => cases z
      | box es0 => exact ⟨⟨es0, h⟩, rfl⟩
    · exact ⟨⟨fs, q'⟩, rfl⟩
theorem J.put {K : PySem.W.Frag} {G H : Hp} {ρ : En} {σ : St} (j : J K G ρ σ H) {i : Nat} {ds es : List D} {a : Addr} {ws : List V} (h : ρ[i]? = some (.own ds)) (ha : σ[i]? = some (some (.ref a))) (r : RpAll K G ws es) : Ex K G ρ σ H G (ρ.set i (.own es)) σ (upd H a (.lst ws)) :=
  j.putS h rfl ha r
theorem chg_sem {i : Nat} {t : TA} {f : Mo (List D)} {c : List D → List D → Option (List D)} {r : V → List V → Hp → VK → Prop} (q : ∀ G ρ σ H Q, J X.K G ρ σ H → Post X.K E (RpAll X.K) G ρ σ H Q (f ρ) → t σ H Q)
    (hr : ∀ G H a vs ds as us es Q, Same G H → H a = some (.lst vs) → G a = none → RpAll X.K G vs ds → RpAll X.K G us as → c ds as = some es → (∀ v ws, RpAll X.K G ws es → Q v (upd H a (.lst ws))) → r (.ref a) us H Q) :
    ∀ G ρ σ H De, J X.K G ρ σ H → PostS X.K E G ρ σ H De (sChg i f c ρ) → tDrop (tBM X.K "list" r (tVar i) t) De σ H := by
  intro G ρ σ H De j h
  unfold sChg at h
  cases hs : ρ[i]? with
  | none => rw [hs] at h; exact h.elim
  | some sl =>
    rw [hs] at h
    cases sl with
    | no => exact h.elim
    | box _ => exact h.elim
    | pur d => exact h.elim
    | own ds0 =>
      obtain ⟨a, vs, h1, h2, h3, h4⟩ := j.own i _ ds0 hs rfl
      refine ⟨.ref a, h1, .inl ⟨rfl, vs, .of h2⟩, q G ρ σ H _ j (PostS.imp h fun G1 ρ1 us H1 as e1 r1 k => ?_)⟩
      have k' : PostS X.K E G1 ρ1 σ H1 De (match ρ1[i]? with
        | some (.own ds) => match c ds as with
          | some es => some (.ok (ρ1.set i (.own es), .nx))
          | none => none
        | _ => none) := k
      cases hs1 : ρ1[i]? with
      | none => rw [hs1] at k'; exact k'.elim
      | some sl1 =>
        rw [hs1] at k'
        cases sl1 with
        | no => exact k'.elim
        | box _ => exact k'.elim
        | pur d => exact k'.elim
        | own ds =>
          cases hc : c ds as with
          | none => simp only [hc] at k'; exact k'.elim
          | some es =>
            simp only [hc] at k'
            obtain ⟨a1, vs1, g1, g2, g3, g4⟩ := e1.j.own i _ ds hs1 rfl
            rw [h1] at g1
            cases g1
            exact hr G1 H1 a vs1 ds as us es _ e1.j.sub g2 g3 g4 r1 hc fun v ws rw' => k' G1 σ _ (e1.j.put hs1 h1 rw')
theorem s_app {i : Nat} {x : Str} {e : Expr} {f : Mo (List D)} {p1 apos cpos pos : Pos} (h : EA X E [e] f) (hN : X.N[i]? = some x := by rfl) (hv : Vis X.env.scope x := by first | exact Or.inl rfl | exact Or.inr (Or.inl rfl) | exact Or.inr (Or.inr rfl)) (hd : (x == ("__debug__" : Str)) = false := by decide) (hcd : (x == ("__classdict__" : Str)) = false := by decide)
    (hs : swapsWith (.Call (.Attribute (.Name x p1) "append" apos) [e] [] cpos) none pos.line X.env = pure false := by rfl)
    (hbase : attributeBase (.Name x p1) "append" X.env (eval (.Name x p1) X.env) = eval (.Name x p1) X.env := by rfl)
    (hfew : ((backTo cpos (starEach [e] X.env)).all (fun x => !x.1) && (backToKw cpos (keywordEach [] X.env)).all (fun x => x.1.isSome) && decide ([e].length + ([] : List Keyword).length + (if ([] : List Keyword).isEmpty then 0 else 1) < 30)) = true := by rfl)
    (hline : (apos.endLine == cpos.line) = true := by rfl) (hst : starEach [e] X.env = (false, eval e X.env) :: starEach [] X.env := by rfl) (hplain : (backTo cpos (starEach [] X.env)).any (·.1) = false := by rfl) :
    SV X E (.Expr (.Call (.Attribute (.Name x p1) "append" apos) [e] [] cpos) pos) (sChg i f appC) := by
  obtain ⟨t, p, q⟩ := h
  refine ⟨_, ps_expr (pe_bm PySem.F.plainAttrs_list PySem.F.slot_list_append PySem.F.type_list_append mt_append (pe_var hN hv hd hcd) p hbase hfew hline hst hplain) hs, chg_sem q fun G H a vs ds as us es Q s z1 z2 z3 z4 hc k => ?_⟩
  match as, hc with
  | [d], hc =>
    obtain ⟨y, rfl, ry⟩ := z4.one
    have hc' : (match Nat.blt ds.length 1000000 with
      | true => some (ds ++ [d])
      | false => none) = some es := hc
    cases hb : Nat.blt ds.length 1000000 with
    | false => rw [hb] at hc'; cases hc'
    | true =>
      rw [hb] at hc'
      cases hc'
      have hlt : ds.length < 1000000 := by
        unfold Nat.blt at hb
        exact Nat.le_of_ble_eq_true hb
      exact ⟨a, vs, y, rfl, rfl, z1, by rw [z3.length]; exact Nat.lt_of_lt_of_le hlt (by decide), k _ _ (z3.append (.cons ry .nil))⟩
theorem s_ext {i : Nat} {x : Str} {e : Expr} {f : Mo (List D)} {p1 apos cpos pos : Pos} (h : EA X E [e] f) (hN : X.N[i]? = some x := by rfl) (hv : Vis X.env.scope x := by first | exact Or.inl rfl | exact Or.inr (Or.inl rfl) | exact Or.inr (Or.inr rfl)) (hd : (x == ("__debug__" : Str)) = false := by decide) (hcd : (x == ("__classdict__" : Str)) = false := by decide)
    (hs : swapsWith (.Call (.Attribute (.Name x p1) "extend" apos) [e] [] cpos) none pos.line X.env = pure false := by rfl)
    (hbase : attributeBase (.Name x p1) "extend" X.env (eval (.Name x p1) X.env) = eval (.Name x p1) X.env := by rfl)
    (hfew : ((backTo cpos (starEach [e] X.env)).all (fun x => !x.1) && (backToKw cpos (keywordEach [] X.env)).all (fun x => x.1.isSome) && decide ([e].length + ([] : List Keyword).length + (if ([] : List Keyword).isEmpty then 0 else 1) < 30)) = true := by rfl)
    (hline : (apos.endLine == cpos.line) = true := by rfl) (hst : starEach [e] X.env = (false, eval e X.env) :: starEach [] X.env := by rfl) (hplain : (backTo cpos (starEach [] X.env)).any (·.1) = false := by rfl) :
    SV X E (.Expr (.Call (.Attribute (.Name x p1) "extend" apos) [e] [] cpos) pos) (sChg i f extC) := by
  obtain ⟨t, p, q⟩ := h
  refine ⟨_, ps_expr (pe_bm PySem.F.plainAttrs_list PySem.F.slot_list_extend PySem.F.type_list_extend mt_extend (pe_var hN hv hd hcd) p hbase hfew hline hst hplain) hs, chg_sem q fun G H a vs ds as us es Q s z1 z2 z3 z4 hc k => ?_⟩
  match as, hc with
  | [.list zs], hc =>
    obtain ⟨y, rfl, ry⟩ := z4.one
    have hc' : (match Nat.blt (ds.length + zs.length) 1000000 with
      | true => some (ds ++ zs)
      | false => none) = some es := hc
    cases hb : Nat.blt (ds.length + zs.length) 1000000 with
    | false => rw [hb] at hc'; cases hc'
    | true =>
      rw [hb] at hc'
      cases hc'
      have hlt : ds.length + zs.length < 1000000 := by
        unfold Nat.blt at hb
        exact Nat.le_of_ble_eq_true hb
      cases ry with
      | @lst b ys _ y1 y2 => exact ⟨a, b, vs, ys, rfl, rfl, z1, s _ _ y1, by rw [z3.length, y2.length]; exact line_of (by omega), k _ _ (z3.append y2)⟩
/-- xs[i] = e -/
def sPut (i : Nat) (fi fe : Mo D) : Mo Fl := mBind fe fun d ρ => match ρ[i]? with
  | some (.own _) => mBind fi (fun k ρ1 => match ρ1[i]? with
    | some (.own ds) => match intOf k with
      | some n => match ixN ds.length n with
        | some m => some (.ok (ρ1.set i (.own (ds.set m d)), .nx))
        | none => none
      | none => none
    | _ => none) ρ
  | _ => none
theorem s_put {i : Nat} {x : Str} {e ie : Expr} {fi fe : Mo D} {p1 tpos pos : Pos} (h : EV X E e fe) (hi : EV X E ie fi) (hN : X.N[i]? = some x := by rfl) (hv : Vis X.env.scope x := by first | exact Or.inl rfl | exact Or.inr (Or.inl rfl) | exact Or.inr (Or.inr rfl)) (hd : (x == ("__debug__" : Str)) = false := by decide) (hcd : (x == ("__classdict__" : Str)) = false := by decide)
    (hpg : ∀ {to ti : TE} {t : TSet}, PE X (.Name x p1) to → PE X ie ti → PSet X t → PG X (.Subscript (.Name x p1) ie tpos) (gSub to ti t) := by exact fun a b c => pg_sub a b c)
    (hs : swapsWithSole [.Subscript (.Name x p1) ie tpos] e pos.line X.env = pure false := by rfl) (hw : swappedStores [.Subscript (.Name x p1) ie tpos] e X.env = pure none := by rfl)
    (ha : (assignEach [.Subscript (.Name x p1) ie tpos] X.env).map (·.2) = [assign (.Subscript (.Name x p1) ie tpos) X.env] := by rfl) : SV X E (.Assign [.Subscript (.Name x p1) ie tpos] e pos) (sPut i fi fe) := by
  obtain ⟨t, p, q⟩ := h
  obtain ⟨ti, pi, qi⟩ := hi
  refine ⟨_, ps_asg p (hpg (pe_var hN hv hd hcd) pi set_list) hs hw ha, fun G ρ σ H De j h => q G ρ σ H _ j (PostS.imp h fun G1 ρ1 v H1 d e1 r1 k => ?_)⟩
  have k' : PostS X.K E G1 ρ1 σ H1 De (match ρ1[i]? with
    | some (.own _) => mBind fi (fun k ρ1 => match ρ1[i]? with
      | some (.own ds) => match intOf k with
        | some n => match ixN ds.length n with
          | some m => some (.ok (ρ1.set i (.own (ds.set m d)), .nx))
          | none => none
        | none => none
      | _ => none) ρ1
    | _ => none) := k
  cases hs1 : ρ1[i]? with
  | none => rw [hs1] at k'; exact k'.elim
  | some sl1 =>
    rw [hs1] at k'
    cases sl1 with
    | no => exact k'.elim
    | box _ => exact k'.elim
    | pur d => exact k'.elim
    | own ds0 =>
      obtain ⟨a, vs, h1, h2, h3, h4⟩ := e1.j.own i _ ds0 hs1 rfl
      refine ⟨.ref a, h1, qi G1 ρ1 σ H1 _ e1.j (PostS.imp k' fun G2 ρ2 iv H2 kd e2 r2 k2 => ?_)⟩
      have k2' : PostS X.K E G2 ρ2 σ H2 De (match ρ2[i]? with
        | some (.own ds) => match intOf kd with
          | some n => match ixN ds.length n with
            | some m => some (.ok (ρ2.set i (.own (ds.set m d)), .nx))
            | none => none
          | none => none
        | _ => none) := k2
      cases hs2 : ρ2[i]? with
      | none => rw [hs2] at k2'; exact k2'.elim
      | some sl2 =>
        rw [hs2] at k2'
        cases sl2 with
        | no => exact k2'.elim
        | box _ => exact k2'.elim
        | pur d => exact k2'.elim
        | own ds =>
          obtain ⟨a2, vs2, g1, g2, g3, g4⟩ := e2.j.own i _ ds hs2 rfl
          rw [h1] at g1
          cases g1
          cases r2 with
          | int n =>
            simp only [intOf] at k2'
            cases hx : ixN ds.length n with
            | none => simp only [hx] at k2'; exact k2'.elim
            | some m =>
              simp only [hx] at k2'
              exact ⟨a, vs2, n, m, rfl, rfl, g2, by rw [g4.length]; exact hx, k2' G2 σ _ (e2.j.put hs2 h1 (RpAll.set (r1.mono e2.g) m g4))⟩
          | _ => exact k2'.elim
/-- xs.pop(k), xs.pop() as a value -/
def mPop (i : Nat) (f : Mo D) : Mo D := fun ρ => match ρ[i]? with
  | some (.own _) => mBind f (fun k ρ1 => match ρ1[i]? with
    | some (.own ds) => match intOf k with
      | some n => match ixN ds.length n with
        | some m => match ds[m]? with
          | some d => match Nat.blt ds.length 1000000 with
            | true => some (.ok (ρ1.set i (.own (ds.eraseIdx m)), d))
            | false => none
          | none => none
        | none => none
      | none => none
    | _ => none) ρ
  | _ => none
theorem RpAll.erase {K : PySem.W.Frag} {G : Hp} : ∀ {vs : List V} {ds : List D} (n : Nat), RpAll K G vs ds → RpAll K G (vs.eraseIdx n) (ds.eraseIdx n)
  | _, _, _, .nil => .nil
  | _, _, 0, .cons _ t => t
  | _, _, n + 1, .cons h t => .cons h (t.erase n)
theorem ev_pop {i : Nat} {x : Str} {e : Expr} {f : Mo D} {p1 apos cpos : Pos} (h : EV X E e f) (hN : X.N[i]? = some x := by rfl) (hv : Vis X.env.scope x := by first | exact Or.inl rfl | exact Or.inr (Or.inl rfl) | exact Or.inr (Or.inr rfl)) (hd : (x == ("__debug__" : Str)) = false := by decide) (hcd : (x == ("__classdict__" : Str)) = false := by decide)
    (hbase : attributeBase (.Name x p1) "pop" X.env (eval (.Name x p1) X.env) = eval (.Name x p1) X.env := by rfl)
    (hfew : ((backTo cpos (starEach [e] X.env)).all (fun x => !x.1) && (backToKw cpos (keywordEach [] X.env)).all (fun x => x.1.isSome) && decide ([e].length + ([] : List Keyword).length + (if ([] : List Keyword).isEmpty then 0 else 1) < 30)) = true := by rfl)
    (hline : (apos.endLine == cpos.line) = true := by rfl) (hst : starEach [e] X.env = (false, eval e X.env) :: starEach [] X.env := by rfl) (hplain : (backTo cpos (starEach [] X.env)).any (·.1) = false := by rfl) :
    EV X E (.Call (.Attribute (.Name x p1) "pop" apos) [e] [] cpos) (mPop i f) := by
  obtain ⟨t, p, q⟩ := h
  refine ⟨_, pe_bm PySem.F.plainAttrs_list PySem.F.slot_list_pop PySem.F.type_list_pop mt_popAt (pe_var hN hv hd hcd) (pa_cons p pa_nil hst) hbase hfew hline hst hplain, fun G ρ σ H Q j h => ?_⟩
  unfold mPop at h
  cases hs : ρ[i]? with
  | none => rw [hs] at h; exact h.elim
  | some sl =>
    rw [hs] at h
    cases sl with
    | no => exact h.elim
    | box _ => exact h.elim
    | pur d => exact h.elim
    | own ds0 =>
      obtain ⟨a, vs, h1, h2, h3, h4⟩ := j.own i _ ds0 hs rfl
      refine ⟨.ref a, h1, .inl ⟨rfl, vs, .of h2⟩, q G ρ σ H _ j (Post.imp h fun G1 ρ1 y H1 k e1 r1 h5 => ?_)⟩
      have k' : Post X.K E (Rp X.K) G1 ρ1 σ H1 Q (match ρ1[i]? with
        | some (.own ds) => match intOf k with
          | some n => match ixN ds.length n with
            | some m => match ds[m]? with
              | some d => match Nat.blt ds.length 1000000 with
                | true => some (.ok (ρ1.set i (.own (ds.eraseIdx m)), d))
                | false => none
              | none => none
            | none => none
          | none => none
        | _ => none) := h5
      cases hs1 : ρ1[i]? with
      | none => rw [hs1] at k'; exact k'.elim
      | some sl1 =>
        rw [hs1] at k'
        cases sl1 with
        | no => exact k'.elim
        | box _ => exact k'.elim
        | pur d => exact k'.elim
        | own ds =>
          obtain ⟨a1, vs1, g1, g2, g3, g4⟩ := e1.j.own i _ ds hs1 rfl
          rw [h1] at g1
          cases g1
          cases r1 with
          | int n =>
            simp only [intOf] at k'
            cases hx : ixN ds.length n with
            | none => simp only [hx] at k'; exact k'.elim
            | some m =>
              simp only [hx] at k'
              cases hd : ds[m]? with
              | none => simp only [hd] at k'; exact k'.elim
              | some d =>
                simp only [hd] at k'
                cases hb : Nat.blt ds.length 1000000 with
                | false => simp only [hb] at k'; exact k'.elim
                | true =>
                  simp only [hb] at k'
                  have hlt : ds.length < 1000000 := by
                    unfold Nat.blt at hb
                    exact Nat.le_of_ble_eq_true hb
                  obtain ⟨v, y1, y2⟩ := g4.get hd
                  obtain ⟨x1, x2, x3, x4⟩ := ixN_seq hx
                  refine ⟨a, vs1, n, m, v, rfl, rfl, g2, by omega, by omega, by rw [g4.length]; exact x1, y1, ?_⟩
                  exact k' G1 v _ (e1.j.put hs1 h1 (g4.erase m)) y2
          | _ => exact k'.elim
/-- xs[e], len(xs) of a list of the def's own -/
def mIxO (i : Nat) (f : Mo D) : Mo D := fun ρ => match ρ[i]? with
  | some (.own _) => mBind f (fun k ρ1 => match ρ1[i]? with
    | some (.own ds) => mLift (ixD (.list ds) k) ρ1
    | _ => none) ρ
  | some (.pur d) => mBind f (fun k => mLift (ixD d k)) ρ
  | _ => none
theorem ev_ixO {i : Nat} {x : Str} {e : Expr} {f : Mo D} {p1 pos : Pos} (h : EV X E e f) (hN : X.N[i]? = some x := by rfl) (hv : Vis X.env.scope x := by first | exact Or.inl rfl | exact Or.inr (Or.inl rfl) | exact Or.inr (Or.inr rfl)) (hd : (x == ("__debug__" : Str)) = false := by decide) (hcd : (x == ("__classdict__" : Str)) = false := by decide)
    (hs : PlainIx e := by exact fun _ _ => rfl) : EV X E (.Subscript (.Name x p1) e pos) (mIxO i f) := by
  obtain ⟨t, p, q⟩ := h
  refine ⟨_, pe_ix ix_seq (pe_var hN hv hd hcd) p hs, fun G ρ σ H Q j h => ?_⟩
  unfold mIxO at h
  cases hs : ρ[i]? with
  | none => rw [hs] at h; exact h.elim
  | some sl =>
    rw [hs] at h
    cases sl with
    | no => exact h.elim
    | box _ => exact h.elim
    | pur d =>
      obtain ⟨v, h1, h2⟩ := j.pur i d hs
      refine ⟨v, h1, q G ρ σ H _ j (Post.imp h fun G1 ρ1 y H1 k e1 r1 h5 => ?_)⟩
      obtain ⟨c, hc, kk⟩ := Post.lift (ρ' := ρ1) h5
      exact ix_sem e1.j.sub (h2.mono e1.g) r1 hc fun v r => kk G1 v H1 e1.j.refl r
    | own ds0 =>
      obtain ⟨a, vs, h1, h2, h3, h4⟩ := j.own i _ ds0 hs rfl
      refine ⟨.ref a, h1, q G ρ σ H _ j (Post.imp h fun G1 ρ1 y H1 k e1 r1 h5 => ?_)⟩
      have k' : Post X.K E (Rp X.K) G1 ρ1 σ H1 Q (match ρ1[i]? with
        | some (.own ds) => mLift (ixD (.list ds) k) ρ1
        | _ => none) := h5
      cases hs1 : ρ1[i]? with
      | none => rw [hs1] at k'; exact k'.elim
      | some sl1 =>
        rw [hs1] at k'
        cases sl1 with
        | no => exact k'.elim
        | box _ => exact k'.elim
        | pur d => exact k'.elim
        | own ds =>
          obtain ⟨c, hc, kk⟩ := Post.lift (ρ' := ρ1) k'
          obtain ⟨a1, vs1, g1, g2, g3, g4⟩ := e1.j.own i _ ds hs1 rfl
          rw [h1] at g1
          cases g1
          cases r1 with
          | int n =>
            obtain ⟨v, q1, q2⟩ := g4.atI hc
            exact .inl ⟨_, _, _, _, rfl, rfl, .of g2, q1, kk G1 v H1 e1.j.refl q2⟩
          | _ => cases hc
def mLenO (i : Nat) : Mo D := fun ρ => match ρ[i]? with
  | some (.own ds) => some (.ok (ρ, .int ds.length))
  | some (.pur d) => mLift (lenD [d]) ρ
  | _ => none
theorem ev_lenO {i : Nat} {x : Str} {p1 p pos : Pos} (hm : X.mg "len" = none) (hN : X.N[i]? = some x := by rfl) (hv : Vis X.env.scope x := by first | exact Or.inl rfl | exact Or.inr (Or.inl rfl) | exact Or.inr (Or.inr rfl)) (hd : (x == ("__debug__" : Str)) = false := by decide) (hcd : (x == ("__classdict__" : Str)) = false := by decide)
    (hg : Gl X "len" := by rfl) (he : starEach [.Name x p1] X.env = (false, eval (.Name x p1) X.env) :: starEach [] X.env := by rfl) (hpl : (backTo pos (starEach [] X.env)).any (·.1) = false := by rfl) : EV X E (.Call (.Name "len" p) [.Name x p1] [] pos) (mLenO i) := by
  refine ⟨_, pe_callB call_len hg hm boot_len (pa_cons (pe_var hN hv hd hcd) pa_nil he) (by decide) (by decide) he hpl, fun G ρ σ H Q j h => ?_⟩
  unfold mLenO at h
  cases hs : ρ[i]? with
  | none => rw [hs] at h; exact h.elim
  | some sl =>
    rw [hs] at h
    cases sl with
    | no => exact h.elim
    | box _ => exact h.elim
    | own ds =>
      obtain ⟨a, vs, h1, h2, h3, h4⟩ := j.own i _ ds hs rfl
      exact ⟨.ref a, h1, _, ds.length, rfl, .inl ⟨_, .of h2, h4.length.symm⟩, h G _ H j.refl (.int _)⟩
    | pur d =>
      obtain ⟨v, h1, h2⟩ := j.pur i d hs
      refine ⟨v, h1, ?_⟩
      obtain ⟨c, hc, kk⟩ := Post.lift (ρ' := ρ) h
      cases h2 with
      | lst z1 z2 => cases hc; exact ⟨_, _, rfl, .inl ⟨_, .of (j.sub _ _ z1), z2.length.symm⟩, kk G _ H j.refl (.int _)⟩
      | tup z1 z2 => cases hc; exact ⟨_, _, rfl, .inr ⟨_, sqT_mono j.sub z1, z2.length.symm⟩, kk G _ H j.refl (.int _)⟩
      | frz z1 z2 => cases hc; exact ⟨_, _, rfl, .inl ⟨_, j.sub.seq z1, z2.length.symm⟩, kk G _ H j.refl (.int _)⟩
      | str z =>
        obtain ⟨h5, rfl⟩ := ite_some (show (if z.length ≤ 1000000 then some (PyData.int z.length) else none) = some c from hc)
        exact ⟨_, _, rfl, ⟨line_of h5, rfl⟩, kk G _ H j.refl (.int _)⟩
      | obj z1 z2 => cases hc
      | _ => cases hc
end
end HB
namespace HB
open PySem L2
/-! ### zip and enumerate over lists and tuples -/
/-- t: a list, else a tuple -/
def SIs (t : Bool) (h : Heap) (l : Addr) (its : Array Value) : Prop := match t with
  | true => h.IsList l its
  | false => h.IsTuple l its
def SIt (t : Bool) (h : Heap) (it l : Addr) (i : Nat) : Prop := match t with
  | true => h.IsListIter it l i
  | false => h.IsTupleIter it l i
def itObj (t : Bool) (l : Addr) : Obj := match t with
  | true => { cls := .type "list_iterator", data := .fields #[.ref l, .int 0 0] }
  | false => { cls := .type "tuple_iterator", data := .fields #[.ref l, .int 0 0] }
def SqB (K : PySem.W.Frag) (t : Bool) (H : Hp) (a : Addr) (xs : List V) : Prop := match t with
  | true => SqL K H a xs
  | false => SqT K H a xs
section
variable {prog : Program} {w : World} {A : Around} {E : Value → Shared → Prop} {s : Shared} {t t1 t2 : Bool}
theorem SIt.ext {h h' : Heap} {it l b : Addr} {i : Nat} (x : SIt t h it l i) (e : Heap.ExtBut b h h') (n : it ≠ b) : SIt t h' it l i := by
  cases t
  · exact Heap.IsTupleIter.extBut x e n
  · exact Heap.IsListIter.extBut x e n
theorem SIt.at {h h' : Heap} {it l : Addr} {i : Nat} (x : SIt t h it l i) (e : ∀ o, h.get? it = some o → h'.get? it = some o) : SIt t h' it l i := by
  cases t
  · exact Heap.IsTupleIter.at x e
  · exact Heap.IsListIter.at x e
theorem SIs.ext {h h' : Heap} {l b : Addr} {its : Array Value} (x : SIs t h l its) (e : Heap.ExtBut b h h') (n : l ≠ b) : SIs t h' l its := by
  cases t
  · exact Heap.IsTuple.extBut x e n
  · exact Heap.IsList.extBut x e n
theorem SIs.lt {h : Heap} {l : Addr} {its : Array Value} (x : SIs t h l its) : l < h.objs.size := by
  cases t
  · obtain ⟨o, e, _⟩ := (show h.IsTuple l its from x)
    exact Heap.lt_size e
  · obtain ⟨o, e, _⟩ := (show h.IsList l its from x)
    exact Heap.lt_size e
theorem SIt.obj {h : Heap} {it l : Addr} {i : Nat} (x : SIt t h it l i) : ∃ o, h.get? it = some o ∧ ∀ v, o.data ≠ .cell v := by
  cases t
  · obtain ⟨o, e, _, d⟩ := (show h.IsTupleIter it l i from x)
    exact ⟨o, e, fun v q => by rw [d] at q; cases q⟩
  · obtain ⟨o, e, _, d⟩ := (show h.IsListIter it l i from x)
    exact ⟨o, e, fun v q => by rw [d] at q; cases q⟩
theorem nx_item {it l : Addr} {i : Nat} {its : Array Value} {x : Value} {Q : Value → Shared → Prop} (hit : SIt t s.heap it l i) (hl : SIs t s.heap l its) (hx : its[i]? = some x)
    (k : ∀ h', SIt t h' it l (i + 1) → Heap.SameBut it s.heap h' → Q x { s with heap := h' }) : wpAny (model prog w) A (Builtin.SmallTypes.nextOf (.ref it)) Q E s := by
  cases t
  · exact RZ.nextOf_tuple_item hit hl hx k
  · exact wpAny_nextOf_list_item hit hl hx k
theorem nx_end {it l : Addr} {i : Nat} {its : Array Value} {Q : Value → Shared → Prop} (hh : A.handled = none) (hit : SIt t s.heap it l i) (hl : SIs t s.heap l its) (hx : its[i]? = none)
    (k : ∀ h' e, Heap.ExtBut it s.heap h' → (∃ o, h'.get? e = some o ∧ o.cls = .type "StopIteration") → E (.ref e) { s with heap := h' }) : wpAny (model prog w) A (Builtin.SmallTypes.nextOf (.ref it)) Q E s := by
  cases t
  · exact RZ.nextOf_tuple_end hh hit hl hx k
  · exact wpAny_nextOf_list_end hh hit hl hx k
theorem stopped {e : Addr} {Q : Bool → Shared → Prop} (b : ∃ o, s.heap.get? e = some o ∧ o.cls = .type "StopIteration") (k : Q true s) : wpAny (model prog w) A (isInstance (.ref e) (.type "StopIteration")) Q E s :=
  let ⟨o, ho, hc⟩ := b
  wpAny_isInstance ⟨o, ho, hc⟩ isSubtype_stop k
/-- with the end told -/
theorem nxo_item {it l : Addr} {i : Nat} {its : Array Value} {x : Value} {Q : Option Value → Shared → Prop} (hit : SIt t s.heap it l i) (hl : SIs t s.heap l its) (hx : its[i]? = some x)
    (k : ∀ h', SIt t h' it l (i + 1) → Heap.SameBut it s.heap h' → Q (some x) { s with heap := h' }) : wpAny (model prog w) A (Builtin.SmallTypes.nextOrEnd (.ref it)) Q E s := by
  unfold Builtin.SmallTypes.nextOrEnd
  exact wpAny_bind (wpAny_attempt (nx_item hit hl hx fun h' a b => wpAny_pure (k h' a b)))
theorem nxo_end {it l : Addr} {i : Nat} {its : Array Value} {Q : Option Value → Shared → Prop} (hh : A.handled = none) (hit : SIt t s.heap it l i) (hl : SIs t s.heap l its) (hx : its[i]? = none)
    (k : ∀ h', Heap.ExtBut it s.heap h' → Q none { s with heap := h' }) : wpAny (model prog w) A (Builtin.SmallTypes.nextOrEnd (.ref it)) Q E s := by
  unfold Builtin.SmallTypes.nextOrEnd
  exact wpAny_bind (wpAny_attempt (nx_end hh hit hl hx fun h' e a b => wpAny_bind (stopped b (wpAny_pure (k h' a)))))
/-- the zip object; b: strict -/
def IsZipB (b : Bool) (h : Heap) (z TI TO : Addr) (f0 : Value) : Prop := h.get? z = some { cls := .type "zip", data := .fields #[f0, .bool false, .bool b, .ref TI, .ref TO] }
/-! the places of a zip object, read and written -/
section
variable {b : Bool} {z TI TO : Addr} {f0 : Value} {Q : Value → Shared → Prop}
theorem z0 (hz : IsZipB b s.heap z TI TO f0) (k : Q f0 s) : wpAny (model prog w) A (field (.ref z) 0) Q E s := wpAny_field hz rfl rfl k
theorem z2 (hz : IsZipB b s.heap z TI TO f0) (k : Q (.bool b) s) : wpAny (model prog w) A (field (.ref z) 2) Q E s := wpAny_field hz rfl rfl k
theorem z3 (hz : IsZipB b s.heap z TI TO f0) (k : Q (.ref TI) s) : wpAny (model prog w) A (field (.ref z) 3) Q E s := wpAny_field hz rfl rfl k
theorem z4 (hz : IsZipB b s.heap z TI TO f0) (k : Q (.ref TO) s) : wpAny (model prog w) A (field (.ref z) 4) Q E s := wpAny_field hz rfl rfl k
theorem zset {v : Value} {R : Unit → Shared → Prop} (hz : IsZipB b s.heap z TI TO f0) (k : ∀ h', IsZipB b h' z TI TO v → Heap.SameBut z s.heap h' → R () { s with heap := h' }) : wpAny (model prog w) A (setField (.ref z) 0 v) R E s :=
  wpAny_setField_rec hz (by simp) k
end
/-- what a turn of the zip leaves as it was -/
def ZKeep (z TO i1 i2 : Addr) (h h' : Heap) : Prop := ∀ c o, c ≠ z → c ≠ TO → c ≠ i1 → c ≠ i2 → h.get? c = some o → h'.get? c = some o
/-- zip's next -/
abbrev zNext (z : Addr) : Sem Fin := Builtin.«zip.__next__» ⟨[.ref z], []⟩
theorem zipS_item {z TI TO i1 i2 l1 l2 : Addr} {k1 k2 : Nat} {xs ys : Array Value} {x y a b : Value} {Q : Value → Shared → Prop} (Da : ZipApart z TI TO i1 i2 l1 l2) (hz : IsZipB true s.heap z TI TO .none) (hTI : IsPair s.heap TI (.ref i1) (.ref i2)) (hTO : IsPair s.heap TO a b)
    (h1 : SIt t1 s.heap i1 l1 k1) (h2 : SIt t2 s.heap i2 l2 k2) (hl1 : SIs t1 s.heap l1 xs) (hl2 : SIs t2 s.heap l2 ys) (hx : xs[k1]? = some x) (hy : ys[k2]? = some y)
    (k : ∀ h', IsZipB true h' z TI TO (rawInt s.heap.objs.size) → IsPair h' TO x y → SIt t1 h' i1 l1 (k1 + 1) → SIt t2 h' i2 l2 (k2 + 1) → IsPair h' s.heap.objs.size x y → h'.objs.size = s.heap.objs.size + 1 →
      ZKeep z TO i1 i2 s.heap h' → Q (.ref s.heap.objs.size) { s with heap := h' }) :
    wpAny (model prog w) A (zNext z) (fun r s' => ∃ v, r = .done (.ret v) ∧ Q v s') E s := by
  wp_walk using z2 hz, z3 hz, z0 hz, z4 hz, wpAny_seqItems hTI rfl, zset hz
  intro q1 hz1 e1
  wp_walk using wpAny_onRaise, nxo_item (h1.ext e1.extBut Da.i1z) (hl1.ext e1.extBut Da.l1z) hx
  intro q2 j1 e2
  have T2 : IsPair q2 TO a b := e2.extBut _ _ Da.TOi1 (e1.extBut _ _ Da.TOz hTO)
  wp_walk using wpAny_onRaise, wpAny_seqItems T2 rfl, wpAny_updateSeq_pair T2
  intro q3 T3 e3
  replace T3 : IsPair q3 TO x b := T3
  wp_walk using wpAny_onRaise, nxo_item (((h2.ext e1.extBut Da.i2z).ext e2.extBut Da.i12.symm).ext e3.extBut Da.TOi2.symm) (((hl2.ext e1.extBut Da.l2z).ext e2.extBut Da.l2i1).ext e3.extBut Da.l2TO) hy
  intro q4 j2 e4
  have T4 : IsPair q4 TO x b := e4.extBut _ _ Da.TOi2 T3
  wp_walk using wpAny_onRaise, wpAny_seqItems T4 rfl, wpAny_updateSeq_pair T4
  intro q5 T5 e5
  replace T5 : IsPair q5 TO x y := T5
  have Z5 : IsZipB true q5 z TI TO .ellipsis := e5.extBut _ _ Da.TOz.symm (e4.extBut _ _ Da.i2z.symm (e3.extBut _ _ Da.TOz.symm (e2.extBut _ _ Da.i1z.symm hz1)))
  have hsz : q5.objs.size = s.heap.objs.size := by rw [e5.1, e4.1, e3.1, e2.1, e1.1]
  have keep5 : ZKeep z TO i1 i2 s.heap q5 := fun c o c1 c2 c3 c4 e => e5.extBut _ _ c2 (e4.extBut _ _ c4 (e3.extBut _ _ c2 (e2.extBut _ _ c3 (e1.extBut _ _ c1 e))))
  have J1 : SIt t1 q5 i1 l1 (k1 + 1) := ((j1.ext e3.extBut Da.TOi1.symm).ext e4.extBut Da.i12).ext e5.extBut Da.TOi1.symm
  have J2 : SIt t2 q5 i2 l2 (k2 + 1) := j2.ext e5.extBut Da.TOi2.symm
  have zlt : z < q5.objs.size := Heap.lt_size Z5
  have Z6 : (q5.push { cls := .type "tuple", data := .seq #[x, y] }).get? z = some { cls := .type "zip", data := .fields #[.ellipsis, .bool false, .bool true, .ref TI, .ref TO] } := Heap.get?_push_of_some _ Z5
  wp_walk using wpAny_seqItems T5 rfl, wpAny_newTuple, wpAny_setField_rec Z6 (by simp)
  intro q7 hz7 e7
  wp_walk using wpAny_setField_rec hz7 (by simp)
  · intro q8 hz8 e8
    replace hz8 : IsZipB true q8 z TI TO (rawInt q5.objs.size) := hz8
    have up : ∀ c o, c ≠ z → q5.get? c = some o → q8.get? c = some o := fun c o c1 e => e8.extBut _ _ c1 (e7.extBut _ _ c1 (Heap.get?_push_of_some _ e))
    have T8 : IsPair q8 q5.objs.size x y := e8.extBut _ _ (Nat.ne_of_gt zlt) (e7.extBut _ _ (Nat.ne_of_gt zlt) (Heap.get?_push_size _ rfl))
    have z8 : q8.objs.size = q5.objs.size + 1 := by rw [e8.1, e7.1, Heap.size_push]
    rw [hsz] at hz8 T8 z8
    have fin := k q8 hz8 (up _ _ Da.TOz T5) (J1.at fun o e => up _ o Da.i1z e) (J2.at fun o e => up _ o Da.i2z e) T8 z8 fun c o c1 c2 c3 c4 e => up c o c1 (keep5 c o c1 c2 c3 c4 e)
    rw [← hsz] at fin
    exact wpAny_pure ⟨_, rfl, fin⟩
  · exact (by decide : 2 ≤ sizeLine)
theorem zipS_end {z TI TO i1 i2 l1 l2 : Addr} {k1 k2 : Nat} {xs ys : Array Value} {a b : Value} {Q : Fin → Shared → Prop} (hh : A.handled = none) (Da : ZipApart z TI TO i1 i2 l1 l2) (hz : IsZipB true s.heap z TI TO .none) (hTI : IsPair s.heap TI (.ref i1) (.ref i2)) (hTO : IsPair s.heap TO a b)
    (h1 : SIt t1 s.heap i1 l1 k1) (h2 : SIt t2 s.heap i2 l2 k2) (hl1 : SIs t1 s.heap l1 xs) (hl2 : SIs t2 s.heap l2 ys) (hx : xs[k1]? = none) (hy : ys[k2]? = none)
    (k : ∀ h' e, ZKeep z TO i1 i2 s.heap h' → (∃ o, h'.get? e = some o ∧ o.cls = .type "StopIteration") → E (.ref e) { s with heap := h' }) :
    wpAny (model prog w) A (zNext z) Q E s := by
  wp_walk using z2 hz, z3 hz, z0 hz, z4 hz, wpAny_seqItems hTI rfl, zset hz
  intro q1 hz1 e1
  wp_walk using wpAny_onRaise, nxo_end hh (h1.ext e1.extBut Da.i1z) (hl1.ext e1.extBut Da.l1z) hx
  intro q2 e2
  have Z2 : IsZipB true q2 z TI TO .ellipsis := e2 _ _ Da.i1z.symm hz1
  wp_walk using wpAny_onRaise, zset Z2
  intro q3 hz3 e3
  wp_walk using wpAny_onRaise, nxo_end hh (((h2.ext e1.extBut Da.i2z).ext e2 Da.i12.symm).ext e3.extBut Da.i2z) (((hl2.ext e1.extBut Da.l2z).ext e2 Da.l2i1).ext e3.extBut Da.l2z) hy
  intro q4 e4
  wp_walk
  simp only [raiseNew]
  wp_walk
  refine k _ _ (fun c o c1 c2 c3 c4 e => ?_) ⟨_, Heap.get?_push_size _ rfl, rfl⟩
  have f4 : q4.get? c = some o := e4 _ _ c4 (e3.extBut _ _ c1 (e2 _ _ c3 (e1.extBut _ _ c1 e)))
  exact Heap.get?_push_of_some _ (Heap.get?_push_of_some _ f4)
theorem pyNext_zipS_item {z TI TO i1 i2 l1 l2 : Addr} {k1 k2 : Nat} {xs ys : Array Value} {x y a b : Value} {Q : Option Value → Shared → Prop} (Da : ZipApart z TI TO i1 i2 l1 l2) (hz : IsZipB true s.heap z TI TO .none) (hTI : IsPair s.heap TI (.ref i1) (.ref i2)) (hTO : IsPair s.heap TO a b)
    (h1 : SIt t1 s.heap i1 l1 k1) (h2 : SIt t2 s.heap i2 l2 k2) (hl1 : SIs t1 s.heap l1 xs) (hl2 : SIs t2 s.heap l2 ys) (hx : xs[k1]? = some x) (hy : ys[k2]? = some y)
    (k : ∀ h', IsZipB true h' z TI TO (rawInt s.heap.objs.size) → IsPair h' TO x y → SIt t1 h' i1 l1 (k1 + 1) → SIt t2 h' i2 l2 (k2 + 1) → IsPair h' s.heap.objs.size x y → h'.objs.size = s.heap.objs.size + 1 →
      ZKeep z TO i1 i2 s.heap h' → Q (some (.ref s.heap.objs.size)) { s with heap := h' }) : wpAny (model prog w) A (pyNext (.ref z)) Q E s := by
  have ty : s.TypeIs (.ref z) "zip" := ⟨_, hz, rfl⟩
  unfold pyNext
  exact wpAny_bind (wpAny_attempt (wpAny_callSpecial?_slot (name := Str.ofString "__next__") ty F.slot_zip_next (wpAny_call_entry F.slot_zip_next ty F.entry_zip_next
    (zipS_item Da hz hTI hTO h1 h2 hl1 hl2 hx hy fun h' b1 b2 b3 b4 b5 b6 b7 => wpAny_pure (k h' b1 b2 b3 b4 b5 b6 b7)) (F.args_zip_next_1 _))))
theorem pyNext_zipS_end {z TI TO i1 i2 l1 l2 : Addr} {k1 k2 : Nat} {xs ys : Array Value} {a b : Value} {Q : Option Value → Shared → Prop} (hh : A.handled = none) (Da : ZipApart z TI TO i1 i2 l1 l2) (hz : IsZipB true s.heap z TI TO .none) (hTI : IsPair s.heap TI (.ref i1) (.ref i2)) (hTO : IsPair s.heap TO a b)
    (h1 : SIt t1 s.heap i1 l1 k1) (h2 : SIt t2 s.heap i2 l2 k2) (hl1 : SIs t1 s.heap l1 xs) (hl2 : SIs t2 s.heap l2 ys) (hx : xs[k1]? = none) (hy : ys[k2]? = none)
    (k : ∀ h', ZKeep z TO i1 i2 s.heap h' → Q none { s with heap := h' }) : wpAny (model prog w) A (pyNext (.ref z)) Q E s := by
  have ty : s.TypeIs (.ref z) "zip" := ⟨_, hz, rfl⟩
  unfold pyNext
  refine wpAny_bind (wpAny_attempt (wpAny_callSpecial?_slot (name := Str.ofString "__next__") ty F.slot_zip_next (wpAny_call_entry F.slot_zip_next ty F.entry_zip_next
    (zipS_end (A := A.in1) hh Da hz hTI hTO h1 h2 hl1 hl2 hx hy fun h' e kk he => ?_) (F.args_zip_next_1 _))))
  exact wpAny_bind (stopped he (wpAny_pure (k _ kk)))
/-- the loop gives a handed-out pair back -/
abbrev zBack (elts : List Expr) (x1 : Nat) (pos : Pos) (z T : Addr) : Sem Unit := letOwnedTupleGo (.Tuple elts x1 pos) (.ref z) (.ref T)
theorem letGo_zipS {elts : List Expr} {x1 : Nat} {pos : Pos} {z TI TO T : Addr} {Q : Unit → Shared → Prop} (hz : IsZipB true s.heap z TI TO (rawInt T)) (k : ∀ h', IsZipB true h' z TI TO .none → Heap.SameBut z s.heap h' → Q () { s with heap := h' }) :
    wpAny (model prog w) A (zBack elts x1 pos z T) Q E s := by
  unfold zBack letOwnedTupleGo
  exact wpAny_bind (wpAny_load hz (wpAny_ite_true (by simp) (wpAny_bind (wpAny_rule (zset hz k)))))
theorem pyIter_zipS {z TI TO : Addr} {f0 : Value} {Q : Value → Shared → Prop} (hz : IsZipB true s.heap z TI TO f0) (h : Q (.ref z) s) : wpAny (model prog w) A (pyIter (.ref z)) Q E s := by
  have ty : s.TypeIs (.ref z) "zip" := ⟨_, hz, rfl⟩
  refine wpAny_pyIter_slot ty F.slot_zip_iter (wpAny_call_entry F.slot_zip_iter ty F.entry_zip_iter (wpAny_pure ⟨_, rfl, "zip", _, ty, F.slot_zip_next.lookup, h⟩) (F.args_zip_iter_1 _))
/-! ### zip(a, b, strict=True) is made -/
theorem pyIter_S {l : Addr} {its : Array Value} {Q : Value → Shared → Prop} (hl : SIs t s.heap l its) (h : Q (.ref s.heap.objs.size) { s with heap := s.heap.push (itObj t l) }) : wpAny (model prog w) A (pyIter (.ref l)) Q E s := by
  cases t
  · exact wpAny_pyIter_tuple hl h
  · exact wpAny_pyIter_list hl h
abbrev zS1 (t1 : Bool) (h : Heap) (l1 : Addr) : Heap := h.push (itObj t1 l1)
abbrev zS2 (t1 t2 : Bool) (h : Heap) (l1 l2 : Addr) : Heap := (zS1 t1 h l1).push (itObj t2 l2)
abbrev zS3 (t1 t2 : Bool) (h : Heap) (l1 l2 : Addr) : Heap := (zS2 t1 t2 h l1 l2).push { cls := .type "tuple", data := .seq #[.ref h.objs.size, .ref (zS1 t1 h l1).objs.size] }
abbrev zS4 (t1 t2 : Bool) (h : Heap) (l1 l2 : Addr) : Heap := (zS3 t1 t2 h l1 l2).push { cls := .type "tuple", data := .seq #[.none, .none] }
abbrev zS5 (t1 t2 : Bool) (h : Heap) (l1 l2 : Addr) : Heap := (zS4 t1 t2 h l1 l2).push { cls := .type "zip", data := .fields #[.none, .bool false, .bool true, .ref (zS2 t1 t2 h l1 l2).objs.size, .ref (zS3 t1 t2 h l1 l2).objs.size] }
theorem SIs.push {h : Heap} {l : Addr} {its : Array Value} (x : SIs t h l its) (o : Obj) : SIs t (h.push o) l its := x.ext (b := h.objs.size) (fun b ob _ e => Heap.get?_push_of_some _ e) (Nat.ne_of_lt x.lt)
end
theorem meets_zipS (t1 t2 : Bool) (l1 l2 : Addr) (xs ys : Array Value) :
    Meets (Builtin.«zip.__new__» ⟨[.type "zip", .ref l1, .ref l2], [("strict", .bool true)]⟩) (fun _ R s => SIs t1 s.heap l1 xs ∧ SIs t2 s.heap l2 ys ∧
      R (.ok (.ret (.ref (zS4 t1 t2 s.heap l1 l2).objs.size))) { s with heap := zS5 t1 t2 s.heap l1 l2 }) :=
  .of_wp fun prog w A R ⟨hp, g, d, tk, os⟩ ⟨a1, a2, h⟩ => by
    have hsub : isSubtype (.type "zip") (.type "zip") = pure true := F.called_zip.sub
    have b1 : SIs t1 (Shared.heap ⟨hp, g, d, tk, os⟩) l1 xs := a1
    have b2 : SIs t2 (Shared.heap ⟨hp.push (itObj t1 l1), g, d, tk, os⟩) l2 ys := SIs.push a2 _
    wp_walk using pyIter_S b1, pyIter_S b2
    exact ⟨_, rfl, h⟩
section
variable {prog : Program} {w : World} {A : Around} {E : Value → Shared → Prop} {s : Shared} {t t1 t2 : Bool}
theorem call_zipS {l1 l2 : Addr} {xs ys : Array Value} {Q : Value → Shared → Prop} (a1 : SIs t1 s.heap l1 xs) (a2 : SIs t2 s.heap l2 ys)
    (k : ∀ h', IsZipB true h' (s.heap.objs.size + 4) (s.heap.objs.size + 2) (s.heap.objs.size + 3) .none → IsPair h' (s.heap.objs.size + 2) (.ref s.heap.objs.size) (.ref (s.heap.objs.size + 1)) → IsPair h' (s.heap.objs.size + 3) .none .none → SIt t1 h' s.heap.objs.size l1 0 → SIt t2 h' (s.heap.objs.size + 1) l2 0 → h'.objs.size = s.heap.objs.size + 5 →
      (∀ c o, s.heap.get? c = some o → h'.get? c = some o) → Q (.ref (s.heap.objs.size + 4)) { s with heap := h' }) : wpAny (model prog w) A (call (.type "zip") [.ref l1, .ref l2] [("strict", .bool true)]) Q E s := by
  refine callType_meetsKw (Q₁ := fun obj s1 => s1.TypeIs obj "zip" ∧ Q obj s1) F.called_zip (by kernel_rfl) (by kernel_rfl) F.entry_zip_new F.entry_object_init (meets_zipS t1 t2 l1 l2 xs ys) ⟨a1, a2, ?_⟩ fun obj s1 hq => ⟨hq.1, ?_, _, object_init_meetsKw F.called_zip.init.lookup F.called_zip.made (by decide), hq.1, rfl, hq.2⟩
  · have z1 : (zS1 t1 s.heap l1).objs.size = s.heap.objs.size + 1 := Heap.size_push ..
    have z2 : (zS2 t1 t2 s.heap l1 l2).objs.size = s.heap.objs.size + 2 := by rw [Heap.size_push, z1]
    have z3 : (zS3 t1 t2 s.heap l1 l2).objs.size = s.heap.objs.size + 3 := by rw [Heap.size_push, z2]
    have z4 : (zS4 t1 t2 s.heap l1 l2).objs.size = s.heap.objs.size + 4 := by rw [Heap.size_push, z3]
    have z5 : (zS5 t1 t2 s.heap l1 l2).objs.size = s.heap.objs.size + 5 := by rw [Heap.size_push, z4]
    have fr : ∀ (tt : Bool) (l : Addr), (itObj tt l).isFreed = false := fun tt l => by cases tt <;> rfl
    have g5 : (zS5 t1 t2 s.heap l1 l2).get? (zS4 t1 t2 s.heap l1 l2).objs.size = some _ := Heap.get?_push_size _ rfl
    have g4 : (zS5 t1 t2 s.heap l1 l2).get? (zS3 t1 t2 s.heap l1 l2).objs.size = some _ := Heap.get?_push_of_some _ (Heap.get?_push_size _ rfl)
    have g3 : (zS5 t1 t2 s.heap l1 l2).get? (zS2 t1 t2 s.heap l1 l2).objs.size = some _ := Heap.get?_push_of_some _ (Heap.get?_push_of_some _ (Heap.get?_push_size _ rfl))
    have g2 : (zS5 t1 t2 s.heap l1 l2).get? (zS1 t1 s.heap l1).objs.size = some _ := Heap.get?_push_of_some _ (Heap.get?_push_of_some _ (Heap.get?_push_of_some _ (Heap.get?_push_size _ (fr t2 l2))))
    have g1 : (zS5 t1 t2 s.heap l1 l2).get? s.heap.objs.size = some _ := Heap.get?_push_of_some _ (Heap.get?_push_of_some _ (Heap.get?_push_of_some _ (Heap.get?_push_of_some _ (Heap.get?_push_size _ (fr t1 l1)))))
    show _ ∧ _
    rw [z2, z3, z4] at g5
    rw [z1, z2] at g3
    rw [z3] at g4
    rw [z1] at g2
    rw [z4]
    have mk : ∀ (tt : Bool) (h : Heap) (it l : Addr), h.get? it = some (itObj tt l) → SIt tt h it l 0 := fun tt h it l e => by
      cases tt
      · exact ⟨_, e, rfl, rfl⟩
      · exact ⟨_, e, rfl, rfl⟩
    exact ⟨⟨_, g5, rfl⟩, k _ g5 g3 g4 (mk _ _ _ _ g1) (mk _ _ _ _ g2) z5 fun c o x => Heap.get?_push_of_some _ (Heap.get?_push_of_some _ (Heap.get?_push_of_some _ (Heap.get?_push_of_some _ (Heap.get?_push_of_some _ x))))⟩
  · unfold argsOk
    rw [signature?_of (id := "object.__init__") (n := "__init__".toList.reverse) (o := "object".toList.reverse) (by kernel_rfl) F.owner_object]
    kernel_rfl
/-! ### the turns -/
def ItzS (K : PySem.W.Frag) (t1 t2 : Bool) (a b : Addr) : It :=
  ⟨fun i H => ∃ (xs ys : List V) (x y : V), SqB K t1 H a xs ∧ SqB K t2 H b ys ∧ xs[i]? = some x ∧ ys[i]? = some y,
    fun i H v H' => ∃ T x y, v = .ref T ∧ H T = none ∧ H' = upd H T (.tup [x, y]) ∧ (∀ xs, SqB K t1 H a xs → xs[i]? = some x) ∧ ∀ ys, SqB K t2 H b ys → ys[i]? = some y,
    fun i H => ∃ xs ys : List V, SqB K t1 H a xs ∧ SqB K t2 H b ys ∧ xs.length ≤ i ∧ ys.length ≤ i⟩
end
section
variable {X : Cx} {pins : List (Addr × Obj)} {σ : St} {H : Hp} {s : Shared} {t t1 t2 : Bool}
theorem inv_sqB {a : Addr} {xs : List V} (I : Inv X pins σ H s) (h : SqB X.K t H a xs) : ∃ its : List Value, Vals xs its ∧ SIs t s.heap a its.toArray ∧ xs.length ≤ sizeLine := by
  cases t
  · obtain ⟨its, r, p, z⟩ := I.tuple h
    exact ⟨its, r, p, z⟩
  · obtain ⟨its, r, p, z⟩ := I.list h
    exact ⟨its, r, p.isList, z⟩
theorem inv_sqB_inj {a : Addr} {xs ys : List V} (I : Inv X pins σ H s) (h : SqB X.K t H a xs) (h' : SqB X.K t H a ys) : xs = ys := by
  cases t
  · exact I.tuple_inj h h'
  · exact I.list_inj h h'
theorem SqB.mono {K : PySem.W.Frag} {H H' : Hp} {a : Addr} {xs : List V} (s : Same H H') (h : SqB K t H a xs) : SqB K t H' a xs := by
  cases t
  · exact sqT_mono s h
  · exact s.seq h
end
/-- how a zip stands ahead of its turn i -/
structure ZSt (t1 t2 : Bool) (a b z TI TO i1 i2 : Addr) (i : Nat) (h : Heap) : Prop where
  zp : IsZipB true h z TI TO .none
  ti : IsPair h TI (.ref i1) (.ref i2)
  to : ∃ x y, IsPair h TO x y
  l : SIt t1 h i1 a i
  r : SIt t2 h i2 b i
theorem ZSt.all {t1 t2 : Bool} {a b z TI TO i1 i2 : Addr} {i : Nat} {h : Heap} (q : ZSt t1 t2 a b z TI TO i1 i2 i h) : ∀ c ∈ [z, TI, TO, i1, i2], ∃ o, h.get? c = some o ∧ ∀ v, o.data ≠ .cell v := by
  obtain ⟨x, y, q3⟩ := q.to
  simp only [List.mem_cons, List.not_mem_nil, or_false, forall_eq_or_imp, forall_eq]
  exact ⟨⟨_, q.zp, fun v e => nomatch e⟩, ⟨_, q.ti, fun v e => nomatch e⟩, ⟨_, q3, fun v e => nomatch e⟩, q.l.obj, q.r.obj⟩
theorem ZSt.lt {t1 t2 : Bool} {a b z TI TO i1 i2 c : Addr} {i : Nat} {h : Heap} (q : ZSt t1 t2 a b z TI TO i1 i2 i h) (hc : c ∈ [z, TI, TO, i1, i2]) : c < h.objs.size := let ⟨_, e, _⟩ := q.all c hc; Heap.lt_size e
theorem turn_zipS {P : Program} {w : World} {K : PySem.W.Frag} {t1 t2 : Bool} {elts : List Expr} {kk : Nat} {tpos : Pos} {a b z TI TO i1 i2 : Addr} (Da : ZipApart z TI TO i1 i2 a b) :
    Turn P w K (.Tuple elts kk tpos) (ItzS K t1 t2 a b) [z, TI, TO, i1, i2] z (ZSt t1 t2 a b z TI TO i1 i2) where
  mem := by simp
  obj := fun i h q => q.all
  keep := fun i h h' q k => ⟨k z (by simp) _ q.zp, k TI (by simp) _ q.ti, let ⟨x, y, q3⟩ := q.to; ⟨x, y, k TO (by simp) _ q3⟩, q.l.at fun o e => k i1 (by simp) o e, q.r.at fun o e => k i2 (by simp) o e⟩
  item := by
    intro X hP hw hK hc i pins s σ H E I hf q ⟨xs, ys, x, y, g1, g2, hx, hy⟩
    subst hP hw hK
    obtain ⟨x0, y0, q3⟩ := q.to
    obtain ⟨its, rv, p, _⟩ := inv_sqB I g1
    obtain ⟨its2, rv2, p2, _⟩ := inv_sqB I g2
    have ⟨u, hu, ru⟩ := rv.get hx
    have ⟨u2, hu2, ru2⟩ := rv2.get hy
    refine pyNext_zipS_item Da q.zp q.ti q3 q.l q.r p p2 (x := u) (y := u2) (by simpa using hu) (by simpa using hu2) fun h' b1 b2 b3 b4 hT hsz hk => ⟨_, rfl, ?_⟩
    refine letGo_zipS (s := { s with heap := h' }) b1 fun g b5 sb => ?_
    have same : ∀ c o, c ∉ [z, TI, TO, i1, i2] → s.heap.get? c = some o → g.get? c = some o := fun c o hb e => by
      simp only [List.mem_cons, List.not_mem_nil, or_false, not_or] at hb
      exact (sb.2 c hb.1).trans (hk c o hb.1 hb.2.2.1 hb.2.2.2.1 hb.2.2.2.2 e)
    have pr : IsPair g s.heap.objs.size u u2 := (sb.2 _ (Nat.ne_of_gt (q.lt (by simp)))).trans hT
    have nw : ObjOk X.prog X.w (upd H s.heap.objs.size (.tup [x, y])) g s.heap.objs.size (.tup [x, y]) := ⟨by show 2 ≤ sizeLine; decide, [u, u2], .cons ru (.cons ru2 .nil), ⟨_, pr, rfl, _, rfl⟩⟩
    refine ⟨.ref s.heap.objs.size, _, I.turnedNew (t' := s.toks) (ch := [z, TI, TO, i1, i2]) same hf (Nat.le_refl _) nw, rfl, ⟨_, x, y, rfl, I.hok.fresh (Nat.le_refl _), rfl, fun l hl => by rw [inv_sqB_inj I hl g1]; exact hx, fun l hl => by rw [inv_sqB_inj I hl g2]; exact hy⟩,
      ⟨b5, (sb.2 _ Da.TIz).trans (hk _ _ Da.TIz Da.TITO Da.TIi1 Da.TIi2 q.ti), ⟨u, u2, (sb.2 _ Da.TOz).trans b2⟩, b3.at fun o e => (sb.2 _ Da.i1z).trans e, b4.at fun o e => (sb.2 _ Da.i2z).trans e⟩, fun c hcm => ?_⟩
    exact (upd_ne (Nat.ne_of_lt (q.lt hcm))).trans (hf c hcm).1
  done := by
    intro X hP hw hK hc i pins s σ H E I hf q ⟨xs, ys, g1, g2, e1, e2⟩
    subst hP hw hK
    obtain ⟨x0, y0, q3⟩ := q.to
    obtain ⟨its, rv, p, _⟩ := inv_sqB I g1
    obtain ⟨its2, rv2, p2, _⟩ := inv_sqB I g2
    have l1 := rv.length
    have l2 := rv2.length
    refine pyNext_zipS_end (I.ok.hd hc) Da q.zp q.ti q3 q.l q.r p p2 (by simp; omega) (by simp; omega) fun h' hk => ⟨rfl, I.turnedL (t' := s.toks) (ch := [z, TI, TO, i1, i2]) (fun c o hb e => ?_) hf⟩
    simp only [List.mem_cons, List.not_mem_nil, or_false, not_or] at hb
    exact hk c o hb.1 hb.2.2.1 hb.2.2.2.1 hb.2.2.2.2 e
  self := fun A i s Q E st h => pyIter_zipS st.zp h
section
variable {X : Cx} {E : XK}
theorem callWith_tyK {M : Model} {A : Around} {E : Value → Shared → Prop} {s : Shared} {env : PySem.Env} {pos : Pos} {T : String} {e : Expr} {rest : List Expr} {kws : List Keyword} {Q : Value → Shared → Prop}
    (hall : (backToKw pos (keywordEach kws env)).all (·.1.isSome) = true) (hn : (backToKw pos (keywordEach kws env)).any (·.1.isNone) = false)
    (h : wpAny M A (spliced (backTo pos (starEach (e :: rest) env))) (fun vs s1 => wpAny M A (evalAll ((backToKw pos (keywordEach kws env)).map (·.2))) (fun ks s2 => wpAny M A (call (.type T) vs (((backToKw pos (keywordEach kws env)).filterMap (·.1)).zip ks)) Q E s2) E s1) E s)
    (he : starEach (e :: rest) env = (false, eval e env) :: starEach rest env := by rfl) (hpl : (backTo pos (starEach rest env)).any (·.1) = false := by rfl) :
    wpAny M A (callWith pos (.type T) [] (backTo pos (starEach (e :: rest) env)) (backToKw pos (keywordEach kws env))) Q E s := by
  unfold callWith
  refine wpAny_bind (wpAny_holding (PyProof.Rows.evalArgs_kw2 hall (wpAny_mono h (fun vs s1 h1 => wpAny_mono h1 (fun ks s2 h2 => wpAny_bind (wpAny_standAt ?_)) fun _ _ x => x) fun _ _ x => x) he))
  have hp : (backTo pos (starEach (e :: rest) env)).any (·.1) = false := by
    rw [he]
    show (false || (backTo pos (starEach rest env)).any (·.1)) = false
    rw [hpl]
    rfl
  simp only [hp, hn, Bool.or_false]
  exact wpAny_bind (wpAny_pure (wpAny_bind (wpAny_mono h2 (fun r s3 hr => wpAny_bind (wpAny_holding (wpAny_point (wpAny_pure hr)))) fun _ _ x => x)))
def iZipS (K : PySem.W.Frag) (ta : TA) : TI := fun σ H R => ta σ H fun vs H1 => ∃ a b xs ys t1 t2, vs = [.ref a, .ref b] ∧ SqB K t1 H1 a xs ∧ SqB K t2 H1 b ys ∧ R (ItzS K t1 t2 a b) H1
theorem pi_zipS {e e2 : Expr} {ta : TA} {p pos tpos kp cp : Pos} {elts : List Expr} {kk ck : Nat} (hg : Gl X "zip") (hm : X.mg "zip" = none) (ha : PA X [e, e2] ta) (hs : starEach [e, e2] X.env = (false, eval e X.env) :: starEach [e2] X.env := by rfl) (hpl : (backTo pos (starEach [e2] X.env)).any (·.1) = false := by rfl) :
    PI X (.Tuple elts kk tpos) (.Call (.Name "zip" p) [e, e2] [⟨some "strict", .Constant (.bool true) ck cp, kp⟩] pos) (iZipS X.K ta) := by
  refine PI.mk fun pins s σ H R I h => ?_
  refine wpAny_Call_Name_kw (ld_blt I hg hm PyProof.Rows.boot_zip (callWith_tyK rfl rfl (thn (ha.run pos pins s σ H _ I h) fun us s1 ⟨vs, H1, I1, r1, q1⟩ => ?_) hs hpl))
  refine PyProof.Rows.kwAll_cons (PyProof.Rows.Constant_bool (PyProof.Rows.kwAll_nil ?_))
  obtain ⟨a, b, xs, ys, t1, t2, rfl, g1, g2, q⟩ := q1
  cases r1 with
  | cons r rr =>
    cases rr with
    | cons r' rr =>
      cases rr
      cases r
      cases r'
      obtain ⟨its, rv, p1, _⟩ := inv_sqB I1 g1
      obtain ⟨its2, rv2, p2, _⟩ := inv_sqB I1 g2
      refine call_zipS p1 p2 fun h' hz hTI hTO h1 h2 hsz hk => pyIter_zipS hz ?_
      refine ⟨s1.heap.objs.size + 4, [s1.heap.objs.size + 4, s1.heap.objs.size + 2, s1.heap.objs.size + 3, s1.heap.objs.size, s1.heap.objs.size + 1], _, _, H1, rfl, I1.kept (t' := s1.toks) hk, turn_zipS (PySem.W.ktu_apart s1.heap.objs.size a b p1.lt p2.lt), ⟨hz, hTI, ⟨_, _, hTO⟩, h1, h2⟩, fun c hcm => ?_, q⟩
      have up : s1.heap.objs.size ≤ c := by
        simp only [List.mem_cons, List.not_mem_nil, or_false] at hcm
        rcases hcm with e | e | e | e | e <;> rw [e] <;> first | exact Nat.le_refl _ | exact Nat.le_add_right _ _
      exact I1.fpOk up (I1.hok.fresh up)
/-- zip(a, b, strict=True) on data: of one length -/
def zipD : List D → List D → List D
  | x :: xs, y :: ys => .tuple [x, y] :: zipD xs ys
  | _, _ => []
theorem zipD_get : ∀ (xs ys : List D) (i : Nat) (d : D), (zipD xs ys)[i]? = some d → ∃ x y, xs[i]? = some x ∧ ys[i]? = some y ∧ d = .tuple [x, y]
  | [], _, _, _, h => by simp [zipD] at h
  | _ :: _, [], _, _, h => by simp [zipD] at h
  | x :: xs, y :: ys, 0, d, h => ⟨x, y, rfl, rfl, (Option.some.inj (show some _ = some d from h)).symm⟩
  | x :: xs, y :: ys, i + 1, d, h => zipD_get xs ys i d h
theorem zipD_len : ∀ (xs ys : List D), (zipD xs ys).length = min xs.length ys.length
  | [], _ => by simp [zipD]
  | _ :: _, [] => by simp [zipD]
  | x :: xs, y :: ys => by simp [zipD, zipD_len xs ys]
def zipStrictD : List D → Option Src
  | [a, b] => match itemsD a, itemsD b with
    | some xs, some ys => match Nat.beq xs.length ys.length with
      | true => some (constS (zipD xs ys))
      | false => none
    | _, _ => none
  | _ => none
def mZipStrict (f : Mo (List D)) : Mo Src := mRange zipStrictD f
theorem Rp.itemsB {K : PySem.W.Frag} {G : Hp} {v : V} {d : D} {ds : List D} (r : Rp K G v d) (h : itemsD d = some ds) : ∃ p xs t, v = .ref p ∧ SqB K t G p xs ∧ RpAll K G xs ds := by
  obtain ⟨p, xs, e, s, a⟩ := r.items h
  rcases s with s | s
  · exact ⟨p, xs, false, e, s, a⟩
  · exact ⟨p, xs, true, e, s, a⟩
theorem zip_ok {K : PySem.W.Frag} {G : Hp} {σ : St} {t1 t2 : Bool} {a b : Addr} {xs ys : List V} {ds es : List D} {js : List Nat} (g1 : SqB K t1 G a xs) (g2 : SqB K t2 G b ys) (r1 : RpAll K G xs ds) (r2 : RpAll K G ys es) (hl : ds.length = es.length) : ItOk K G σ (ItzS K t1 t2 a b) (constS (zipD ds es)) js := by
  intro i G2 ρ2 σ2 H2 items sg j _ e
  cases e
  have s1 : SqB K t1 H2 a xs := (g1.mono sg).mono j.sub
  have s2 : SqB K t2 H2 b ys := (g2.mono sg).mono j.sub
  have n1 := r1.length
  have n2 := r2.length
  refine ⟨fun d hd => ?_, fun hi => ⟨xs, ys, s1, s2, ?_, ?_⟩⟩
  · obtain ⟨x, y, hx, hy, rfl⟩ := zipD_get ds es i d hd
    obtain ⟨v, p1, p2⟩ := r1.get hx
    obtain ⟨u, p3, p4⟩ := r2.get hy
    refine ⟨⟨xs, ys, v, u, s1, s2, p1, p3⟩, fun z H3 yl => ?_⟩
    obtain ⟨T, x', y', rfl, hT, rfl, f1, f2⟩ := yl
    have e1 := Option.some.inj ((f1 xs s1).symm.trans p1)
    have e2 := Option.some.inj ((f2 ys s2).symm.trans p3)
    subst e1 e2
    have px : PX G2 H2 _ _ := .alloc j.sub hT (.tup [x', y'])
    exact ⟨_, px, .tup (.of upd_same) (.cons ((p2.mono sg).mono px.g) (.cons ((p4.mono sg).mono px.g) .nil))⟩
  · rw [zipD_len] at hi
    omega
  · rw [zipD_len] at hi
    omega
theorem iv_zipStrict {e e2 : Expr} {f : Mo (List D)} {p pos tpos kp cp : Pos} {elts : List Expr} {kk ck : Nat} (hm : X.mg "zip" = none) (ha : EA X E [e, e2] f) (hg : Gl X "zip" := by rfl) (hs : starEach [e, e2] X.env = (false, eval e X.env) :: starEach [e2] X.env := by rfl) (hpl : (backTo pos (starEach [e2] X.env)).any (·.1) = false := by rfl) :
    IV X E (.Tuple elts kk tpos) (.Call (.Name "zip" p) [e, e2] [⟨some "strict", .Constant (.bool true) ck cp, kp⟩] pos) (mZipStrict f) [] := by
  obtain ⟨t, pt, q⟩ := ha
  refine ⟨_, pi_zipS hg hm pt hs hpl, fun G ρ σ H R j h => q G ρ σ H _ j (PostI.imp h fun G1 ρ1 vs H1 ds e1 r1 h1 => ?_)⟩
  obtain ⟨src, hsr, k⟩ := PostI.lift h1
  match ds, hsr with
  | [d1, d2], hsr =>
    have hsr' : (match itemsD d1, itemsD d2 with
      | some xs, some ys => match Nat.beq xs.length ys.length with
        | true => some (constS (zipD xs ys))
        | false => none
      | _, _ => none) = some src := hsr
    cases hi1 : itemsD d1 with
    | none => simp only [hi1] at hsr'; cases hsr'
    | some xs =>
      cases hi2 : itemsD d2 with
      | none => simp only [hi1, hi2] at hsr'; cases hsr'
      | some ys =>
        simp only [hi1, hi2] at hsr'
        cases hb : Nat.beq xs.length ys.length with
        | false => rw [hb] at hsr'; cases hsr'
        | true =>
          rw [hb] at hsr'
          cases hsr'
          obtain ⟨x, y, rfl, ra, rb⟩ := r1.two
          obtain ⟨pa, vx, t1, rfl, sa, aa⟩ := ra.itemsB hi1
          obtain ⟨pb, vy, t2, rfl, sb, ab⟩ := rb.itemsB hi2
          exact ⟨pa, pb, vx, vy, t1, t2, rfl, sa.mono e1.j.sub, sb.mono e1.j.sub, k G1 H1 _ e1.j.refl (zip_ok sa sb aa ab (Nat.eq_of_beq_eq_true hb))⟩
theorem const_zipStrict {f : Mo (List D)} : ∀ ρ ρ' s, mZipStrict f ρ = some (.ok (ρ', s)) → Const s := by
  intro ρ ρ' s h
  unfold mZipStrict mRange mBind mLift at h
  cases e : f ρ with
  | none => simp only [e] at h; cases h
  | some o =>
    cases o with
    | error x => simp only [e] at h; cases h
    | ok p =>
      obtain ⟨ρ1, ds⟩ := p
      simp only [e] at h
      cases hi : zipStrictD ds with
      | none => simp only [hi] at h; cases h
      | some src =>
        simp only [hi] at h
        cases h
        unfold zipStrictD at hi
        split at hi
        · split at hi
          · split at hi
            · cases hi; exact fun _ => rfl
            · cases hi
          · cases hi
        · cases hi
end
end HB
namespace HB
open PySem L2
/-! ### enumerate -/
section
variable {prog : Program} {w : World} {A : Around} {E : Value → Shared → Prop} {s : Shared} {t : Bool}
theorem enum_item {e it l : Addr} {i : Nat} {its : Array Value} {x old : Value} {Q : Option Value → Shared → Prop} (hh : A.handled = none) (he : IsEnum s.heap e it i old) (hit : SIt t s.heap it l i) (hl : SIs t s.heap l its) (hx : its[i]? = some x) (hne : e ≠ it) (hel : e ≠ l) (hil : l ≠ it)
    (k : ∀ h' tk, IsEnumOut h' e it ((i : Int) + 1) x s.heap.objs.size → SIt t h' it l (i + 1) → h'.get? s.heap.objs.size = some { cls := .type "tuple", data := .seq #[.int i tk, x] } → h'.objs.size = s.heap.objs.size + 1 →
      (∀ b o, b ≠ e → b ≠ it → s.heap.get? b = some o → h'.get? b = some o) → Q (some (.ref s.heap.objs.size)) { s with heap := h', toks := tk + 1 }) : wpAny (model prog w) A (pyNext (.ref e)) Q E s := by
  have hlt : i < its.size := (Array.getElem?_eq_some_iff.mp hx).1
  have hef : e ∉ [it, l] := by simp [hne, hel]
  cases t
  · refine wpAny_pyNext_enum_itemD (Draws.tuple (A := A.in1) hh it l hil its) he ⟨hit, hl⟩ hlt hne hef fun y h' tk a b c d f g => ?_
    have e1 := Option.some.inj (hx.symm.trans a)
    subst e1
    exact k h' tk b c.1 d f g
  · refine wpAny_pyNext_enum_itemD (Draws.list (A := A.in1) hh it l hil its) he ⟨hit, hl⟩ hlt hne hef fun y h' tk a b c d f g => ?_
    have e1 := Option.some.inj (hx.symm.trans a)
    subst e1
    exact k h' tk b c.1 d f g
theorem SIs.at {h h' : Heap} {l : Addr} {its : Array Value} (x : SIs t h l its) (e : ∀ o, h.get? l = some o → h'.get? l = some o) : SIs t h' l its := by
  cases t
  · exact Heap.IsTuple.at x e
  · exact Heap.IsList.at x e
/-- an iterator at its end draws nothing -/
theorem drawsEnd {it l : Addr} {i : Nat} {its : Array Value} (hh : A.handled = none) (hx : its[i]? = none) : Draws prog w A it [it, l] 0 (fun _ _ => False) (fun _ h => SIt t h it l i ∧ SIs t h l its) where
  live := fun _ _ st => let ⟨o, e, _⟩ := st.1.obj; ⟨o, e⟩
  frame := fun _ _ _ st k => ⟨st.1.at (k it (by simp)), st.2.at (k l (by simp))⟩
  item := fun _ _ _ _ no => absurd no (Nat.not_lt_zero _)
  done := fun _ _ _ st k => nx_end hh st.1 st.2 hx k
theorem enum_end {e it l : Addr} {i : Nat} {c : Int} {its : Array Value} {old : Value} {Q : Option Value → Shared → Prop} (hh : A.handled = none) (he : IsEnum s.heap e it c old) (hit : SIt t s.heap it l i) (hl : SIs t s.heap l its) (hx : its[i]? = none)
    (k : ∀ h', Heap.ExtBut it s.heap h' → Q none { s with heap := h' }) : wpAny (model prog w) A (pyNext (.ref e)) Q E s := by
  exact wpAny_pyNext_enum_endD (drawsEnd (A := A.in1) hh hx) he ⟨hit, hl⟩ k
end
theorem meets_enumT (l : Addr) (its : Array Value) :
    Meets (Builtin.«enumerate.__new__» ⟨[.type "enumerate", .ref l], []⟩) (fun _ R s => s.heap.IsTuple l its ∧
      R (.ok (.ret (.ref (s.heap.push (itObj false l)).objs.size))) { s with heap := (s.heap.push (itObj false l)).push { cls := .type "enumerate", data := .fields #[.none, .bool false, .ref s.heap.objs.size, rawInt 0, .none, .none] } }) :=
  .of_wp fun prog w A R ⟨hp, g, d, tk, os⟩ ⟨a, h⟩ => by
    have hsub := F.called_enumerate.sub
    have b : Heap.IsTuple (Shared.heap ⟨hp, g, d, tk, os⟩) l its := a
    obtain ⟨ol, ho, hc, n, hd⟩ := id a
    wp_walk using AutoSeq1.wpAny_loadPart' ho
    apply wpAny_stack_any
    intro st
    apply wpAny_pure
    split
    · rename_i c _ _ _ _ _
      rcases Bool.eq_false_or_eq_true (c == Value.type "enumerate") with yes | yes <;> rw [yes]
      · wp_walk using AutoSeq1.wpAny_loadPart' ho, wpAny_pyIter_tuple b
        exact ⟨_, rfl, h⟩
      · wp_walk using AutoSeq1.wpAny_loadPart' ho, wpAny_pyIter_tuple b
        exact ⟨_, rfl, h⟩
    · wp_walk using AutoSeq1.wpAny_loadPart' ho, wpAny_pyIter_tuple b
      exact ⟨_, rfl, h⟩
section
variable {prog : Program} {w : World} {A : Around} {E : Value → Shared → Prop} {s : Shared} {t : Bool}
theorem call_enumB {l : Addr} {its : Array Value} {Q : Value → Shared → Prop} (hl : SIs t s.heap l its)
    (k : ∀ h', IsEnum h' (s.heap.objs.size + 1) s.heap.objs.size 0 .none → SIt t h' s.heap.objs.size l 0 → (∀ b o, s.heap.get? b = some o → h'.get? b = some o) → Q (.ref (s.heap.objs.size + 1)) { s with heap := h' }) : wpAny (model prog w) A (call (.type "enumerate") [.ref l]) Q E s := by
  cases t
  · refine callType_new F.called_enumerate (by decide) (F.typeCall_enumerate_1 _) (F.newCall_enumerate_1 _) (fun obj => F.args_object_init_2 obj _) F.entry_enumerate_new (meets_enumT l its) ⟨hl, ?_⟩
    have hz : (s.heap.push (itObj false l)).objs.size = s.heap.objs.size + 1 := Heap.size_push ..
    have he := Heap.get?_push_size (s.heap.push (itObj false l)) (o := { cls := .type "enumerate", data := .fields #[.none, .bool false, .ref s.heap.objs.size, rawInt 0, .none, .none] }) rfl
    show _ ∧ _
    rw [hz] at he ⊢
    exact ⟨⟨_, he, rfl⟩, k _ he ⟨_, Heap.get?_push_of_some _ (Heap.get?_push_size _ rfl), rfl, rfl⟩ fun b o x => Heap.get?_push_of_some _ (Heap.get?_push_of_some _ x)⟩
  · exact call_enumerate_list hl fun h' a b _ d => k h' a b d
end
def ItEn (K : PySem.W.Frag) (t : Bool) (a : Addr) : It :=
  ⟨fun i H => ∃ (xs : List V) (x : V), SqB K t H a xs ∧ xs[i]? = some x, fun i H v H' => ∃ T x, v = .ref T ∧ H T = none ∧ H' = upd H T (.tup [.int (i : Nat), x]) ∧ ∀ xs, SqB K t H a xs → xs[i]? = some x, fun i H => ∃ xs : List V, SqB K t H a xs ∧ xs.length ≤ i⟩
/-- how an enumerate stands ahead of its turn i -/
structure EnSt (t : Bool) (a e it : Addr) (i : Nat) (h : Heap) : Prop where
  en : ∃ old, IsEnum h e it ((i : Nat) : Int) old
  l : SIt t h it a i
theorem EnSt.all {t : Bool} {a e it : Addr} {i : Nat} {h : Heap} (q : EnSt t a e it i h) : ∀ c ∈ [e, it], ∃ o, h.get? c = some o ∧ ∀ v, o.data ≠ .cell v := by
  obtain ⟨old, he⟩ := q.en
  simp only [List.mem_cons, List.not_mem_nil, or_false, forall_eq_or_imp, forall_eq]
  exact ⟨⟨_, he, fun v z => nomatch z⟩, q.l.obj⟩
theorem EnSt.lt {t : Bool} {a e it c : Addr} {i : Nat} {h : Heap} (q : EnSt t a e it i h) (hc : c ∈ [e, it]) : c < h.objs.size := let ⟨_, z, _⟩ := q.all c hc; Heap.lt_size z
theorem turn_enumB {P : Program} {w : World} {K : PySem.W.Frag} {t : Bool} {elts : List Expr} {kk : Nat} {tpos : Pos} {a e it : Addr} (hne : e ≠ it) (hel : e ≠ a) (hil : a ≠ it) :
    Turn P w K (.Tuple elts kk tpos) (ItEn K t a) [e, it] e (EnSt t a e it) where
  mem := by simp
  obj := fun i h q => q.all
  keep := fun i h h' q k => ⟨let ⟨old, he⟩ := q.en; ⟨old, k e (by simp) _ he⟩, q.l.at fun o z => k it (by simp) o z⟩
  item := by
    intro X hP hw hK hc i pins s σ H E I hf q ⟨xs, x, hq, hx⟩
    subst hP hw hK
    obtain ⟨old, he⟩ := q.en
    have ⟨its, rv, p, hz⟩ := inv_sqB I hq
    have ⟨u, hu, ru⟩ := rv.get hx
    refine enum_item (I.ok.hd hc) he q.l p (x := u) (by simpa using hu) hne hel hil fun h' tk ho hit' hT hsz hk => ⟨_, rfl, ?_⟩
    refine wpAny_letOwnedTupleGo_enum (s := { s with heap := h', toks := tk + 1 }) ho fun g he' sb => ?_
    have same : ∀ c o, c ∉ [e, it] → s.heap.get? c = some o → g.get? c = some o := fun c o hb z => by
      simp only [List.mem_cons, List.not_mem_nil, or_false, not_or] at hb
      exact (sb.2 c hb.1).trans (hk c o hb.1 hb.2 z)
    have pr := (sb.2 _ (Nat.ne_of_gt (q.lt (by simp)))).trans hT
    have nw : ObjOk X.prog X.w (upd H s.heap.objs.size (.tup [.int (i : Nat), x])) g s.heap.objs.size (.tup [.int (i : Nat), x]) := ⟨by show 2 ≤ sizeLine; decide, [.int i tk, u], .cons ⟨_, rfl⟩ (.cons ru .nil), ⟨_, pr, rfl, _, rfl⟩⟩
    refine ⟨.ref s.heap.objs.size, _, I.turnedNew (t' := tk + 1) (ch := [e, it]) same hf (Nat.le_refl _) nw, rfl, ⟨_, x, rfl, I.hok.fresh (Nat.le_refl _), rfl, fun ys hy => by rw [inv_sqB_inj I hy hq]; exact hx⟩, ⟨⟨u, by rw [Int.natCast_succ]; exact he'⟩, hit'.at fun o z => (sb.2 it (Ne.symm hne)).trans z⟩, fun c hcm => ?_⟩
    exact (upd_ne (Nat.ne_of_lt (q.lt hcm))).trans (hf c hcm).1
  done := by
    intro X hP hw hK hc i pins s σ H E I hf q ⟨xs, hq, hx⟩
    subst hP hw hK
    obtain ⟨old, he⟩ := q.en
    have ⟨its, rv, p, hz⟩ := inv_sqB I hq
    have fi := hf it (by simp)
    have hl := rv.length
    exact enum_end (I.ok.hd hc) he q.l p (by simp; omega) fun h' eb => ⟨rfl, I.turned (t' := s.toks) (fun b o hb z => eb b o hb z) fi.1 fi.2.1 fi.2.2.2.1 fi.2.2.2.2.1 fi.2.2.2.2.2⟩
  self := fun A i s Q E st h => let ⟨_, he⟩ := st.en; wpAny_pyIter_enum he h
def enumD (n : Nat) : List D → List D
  | [] => []
  | d :: ds => .tuple [.int n, d] :: enumD (n + 1) ds
theorem enumD_get : ∀ (ds : List D) (n i : Nat) (d : D), (enumD n ds)[i]? = some d → ∃ x, ds[i]? = some x ∧ d = .tuple [.int ((n + i : Nat) : Int), x]
  | [], _, _, _, h => by simp [enumD] at h
  | x :: ds, n, 0, d, h => ⟨x, rfl, by cases h; rfl⟩
  | x :: ds, n, i + 1, d, h => by
    obtain ⟨y, h1, h2⟩ := enumD_get ds (n + 1) i d h
    exact ⟨y, h1, by rw [h2]; have e : n + 1 + i = n + (i + 1) := by omega
                     rw [e]⟩
theorem enumD_len : ∀ (ds : List D) (n : Nat), (enumD n ds).length = ds.length
  | [], _ => rfl
  | _ :: ds, n => congrArg (· + 1) (enumD_len ds (n + 1))
section
variable {X : Cx} {E : XK}
def iEnumB (K : PySem.W.Frag) (ta : TA) : TI := fun σ H R => ta σ H fun vs H1 => ∃ a xs t, vs = [.ref a] ∧ SqB K t H1 a xs ∧ R (ItEn K t a) H1
theorem pi_enumB {e : Expr} {ta : TA} {p pos tpos : Pos} {elts : List Expr} {kk : Nat} (hg : Gl X "enumerate") (hm : X.mg "enumerate" = none) (ha : PA X [e] ta) (hs : starEach [e] X.env = (false, eval e X.env) :: starEach [] X.env := by rfl) (hpl : (backTo pos (starEach [] X.env)).any (·.1) = false := by rfl) :
    PI X (.Tuple elts kk tpos) (.Call (.Name "enumerate" p) [e] [] pos) (iEnumB X.K ta) := by
  refine PI.mk fun pins s σ H R I h => ?_
  refine PyProof.Rows.Call_ (ld_blt I hg hm PyProof.Rows.boot_enumerate (PyProof.Rows.callWith_type1 (thn (ha.run pos pins s σ H _ I h) fun us s1 ⟨vs, H1, I1, r1, q1⟩ => ?_) hs hpl))
  obtain ⟨a, xs, t, rfl, hq, q⟩ := q1
  cases r1 with
  | cons r rr =>
    cases rr
    cases r
    obtain ⟨its, rv, p', hz⟩ := inv_sqB I1 hq
    refine call_enumB p' fun h' he hit hk => wpAny_pyIter_enum he ?_
    refine ⟨s1.heap.objs.size + 1, [s1.heap.objs.size + 1, s1.heap.objs.size], _, _, H1, rfl, I1.kept (t' := s1.toks) hk, turn_enumB (Nat.succ_ne_self _) (Nat.ne_of_gt (Nat.lt_succ_of_lt p'.lt)) (Nat.ne_of_lt p'.lt), ⟨⟨.none, he⟩, hit⟩, fun c hcm => ?_, q⟩
    have up : s1.heap.objs.size ≤ c := by
      simp only [List.mem_cons, List.not_mem_nil, or_false] at hcm
      rcases hcm with z | z <;> rw [z] <;> first | exact Nat.le_refl _ | exact Nat.le_add_right _ _
    exact I1.fpOk up (I1.hok.fresh up)
theorem enum_ok {K : PySem.W.Frag} {G : Hp} {σ : St} {t : Bool} {a : Addr} {xs : List V} {ds : List D} {js : List Nat} (h : SqB K t G a xs) (r : RpAll K G xs ds) : ItOk K G σ (ItEn K t a) (constS (enumD 0 ds)) js := by
  intro i G2 ρ2 σ2 H2 items sg j _ e
  cases e
  have hs : SqB K t H2 a xs := (h.mono sg).mono j.sub
  refine ⟨fun d hd => ?_, fun hi => ⟨xs, hs, by rw [r.length]; rw [enumD_len] at hi; exact hi⟩⟩
  obtain ⟨x, hx, rfl⟩ := enumD_get ds 0 i d hd
  obtain ⟨v, h1, h2⟩ := r.get hx
  refine ⟨⟨xs, v, hs, h1⟩, fun z H3 y => ?_⟩
  obtain ⟨T, x', rfl, hT, rfl, y⟩ := y
  have e := Option.some.inj ((y xs hs).symm.trans h1)
  subst e
  have px : PX G2 H2 _ _ := .alloc j.sub hT (.tup [.int (i : Nat), x'])
  exact ⟨_, px, .tup (.of upd_same) (.cons (by rw [Nat.zero_add]; exact .int _) (.cons ((h2.mono sg).mono px.g) .nil))⟩
def mEnum (f : Mo D) : Mo Src := mBind f fun d => mLift ((itemsD d).map fun ds => constS (enumD 0 ds))
theorem iv_enum {e : Expr} {f : Mo D} {p pos tpos : Pos} {elts : List Expr} {kk : Nat} (hm : X.mg "enumerate" = none) (h : EV X E e f) (hg : Gl X "enumerate" := by rfl) (hs : starEach [e] X.env = (false, eval e X.env) :: starEach [] X.env := by rfl) (hpl : (backTo pos (starEach [] X.env)).any (·.1) = false := by rfl) :
    IV X E (.Tuple elts kk tpos) (.Call (.Name "enumerate" p) [e] [] pos) (mEnum f) [] := by
  obtain ⟨t, pt, q⟩ := h
  refine ⟨_, pi_enumB hg hm (pa_cons pt pa_nil hs) hs hpl, fun G ρ σ H R j h => q G ρ σ H _ j (PostI.imp h fun G1 ρ1 v H1 d e1 r1 h1 => ?_)⟩
  obtain ⟨src, hsr, k⟩ := PostI.lift h1
  cases hi : itemsD d with
  | none => rw [hi] at hsr; cases hsr
  | some ds =>
    rw [hi] at hsr
    cases hsr
    obtain ⟨p0, xs, t, rfl, s0, r0⟩ := r1.itemsB hi
    exact ⟨p0, xs, t, rfl, s0.mono e1.j.sub, k G1 H1 _ e1.j.refl (enum_ok s0 r0)⟩
theorem const_enum {f : Mo D} : ∀ ρ ρ' s, mEnum f ρ = some (.ok (ρ', s)) → Const s := by
  intro ρ ρ' s h
  unfold mEnum mBind mLift at h
  cases e : f ρ with
  | none => simp only [e] at h; cases h
  | some o =>
    cases o with
    | error x => simp only [e] at h; cases h
    | ok p =>
      obtain ⟨ρ1, d⟩ := p
      simp only [e] at h
      cases hi : itemsD d with
      | none => simp only [hi, Option.map] at h; cases h
      | some ds =>
        simp only [hi, Option.map] at h
        cases h
        exact fun _ => rfl
def enumOS (j : Nat) : Src := fun ρ => match ρ[j]? with
  | some (.own ds) => some (enumD 0 ds)
  | _ => none
def mEnumO (i : Nat) : Mo Src := fun ρ => match ρ[i]? with
  | some (.own _) => some (.ok (ρ, enumOS i))
  | _ => none
theorem enumO_ok {K : PySem.W.Frag} {G : Hp} {σ : St} {i : Nat} {a : Addr} (h : σ[i]? = some (some (.ref a))) : ItOk K G σ (ItEn K true a) (enumOS i) [i] := by
  intro n G2 ρ2 σ2 H2 items sg j hj e
  unfold enumOS at e
  cases q : ρ2[i]? with
  | none => simp [q] at e
  | some s =>
    rw [q] at e
    cases s with
    | no => cases e
    | box _ => cases e
    | pur d => cases e
    | own ds =>
      have e := Option.some.inj e
      subst e
      obtain ⟨a', vs, h1, h2, h3, h4⟩ := j.own i _ ds q rfl
      rw [hj i List.mem_cons_self, h] at h1
      cases h1
      have hs : SqB K true H2 a vs := SqL.of h2
      refine ⟨fun d hd => ?_, fun hi => ⟨vs, hs, by rw [h4.length]; rw [enumD_len] at hi; exact hi⟩⟩
      obtain ⟨x, hx, rfl⟩ := enumD_get ds 0 n d hd
      obtain ⟨v, q1, q2⟩ := h4.get hx
      refine ⟨⟨vs, v, hs, q1⟩, fun z H3 y => ?_⟩
      obtain ⟨T, x', rfl, hT, rfl, y⟩ := y
      have e := Option.some.inj ((y vs hs).symm.trans q1)
      subst e
      have px : PX G2 H2 _ _ := .alloc j.sub hT (.tup [.int (n : Nat), x'])
      exact ⟨_, px, .tup (.of upd_same) (.cons (by rw [Nat.zero_add]; exact .int _) (.cons (q2.mono px.g) .nil))⟩
theorem iv_enumO {p pos tpos p1 : Pos} {elts : List Expr} {kk : Nat} {x : Str} (hm : X.mg "enumerate" = none) (i : Nat) (hN : X.N[i]? = some x := by rfl) (hv : Vis X.env.scope x := by first | exact Or.inl rfl | exact Or.inr (Or.inl rfl) | exact Or.inr (Or.inr rfl)) (hd : (x == ("__debug__" : Str)) = false := by decide)
    (hcd : (x == ("__classdict__" : Str)) = false := by decide) (hg : Gl X "enumerate" := by rfl) (hs : starEach [.Name x p1] X.env = (false, eval (.Name x p1) X.env) :: starEach [] X.env := by rfl) (hpl : (backTo pos (starEach [] X.env)).any (·.1) = false := by rfl) :
    IV X E (.Tuple elts kk tpos) (.Call (.Name "enumerate" p) [.Name x p1] [] pos) (mEnumO i) [i] := by
  refine ⟨_, pi_enumB hg hm (pa_cons (pe_var hN hv hd hcd) pa_nil hs) hs hpl, fun G ρ σ H R j h => ?_⟩
  unfold mEnumO at h
  cases q : ρ[i]? with
  | none => rw [q] at h; exact h.elim
  | some s =>
    rw [q] at h
    cases s with
    | no => exact h.elim
    | box _ => exact h.elim
    | pur d => exact h.elim
    | own ds =>
      obtain ⟨a, vs, h1, h2, h3, h4⟩ := j.own i _ ds q rfl
      exact ⟨_, h1, a, vs, true, rfl, SqL.of h2, h G H _ j.refl (enumO_ok h1)⟩
/-! ### several names at once -/
inductive Tm where
  | p (d : D)
  | o (ds : List D)
/-- new lists among them are nobody else's, and apart -/
def RT (K : PySem.W.Frag) (H0 G H : Hp) (ρ : En) (σ : St) : List V → List Tm → Prop
  | [], [] => True
  | v :: vs, .p d :: ts => Rp K G v d ∧ RT K H0 G H ρ σ vs ts
  | v :: vs, .o ds :: ts => (∃ a us, v = .ref a ∧ H0 a = none ∧ G a = none ∧ H a = some (.lst us) ∧ ¬ Ownd ρ σ a ∧ RpAll K G us ds ∧ ∀ (i : Nat) es, ts[i]? = some (.o es) → vs[i]? ≠ some (.ref a)) ∧ RT K H0 G H ρ σ vs ts
  | _, _ => False
def PostX (K : PySem.W.Frag) (E : XK) (G : Hp) (ρ : En) (σ : St) (H : Hp) (Q : List V → Hp → Prop) : Option (Except Exn (En × List Tm)) → Prop
  | none => False
  | some (.error x) => ∀ C dx H', XP K G ρ σ H x C dx H' → E C dx H'
  | some (.ok (ρ', ts)) => ∀ G' vs H', Ex K G ρ σ H G' ρ' σ H' → RT K H G' H' ρ' σ vs ts → Q vs H'
def EX (X : Cx) (E : XK) (es : List Expr) (f : Mo (List Tm)) : Prop := ∃ t, PA X es t ∧ ∀ G ρ σ H Q, J X.K G ρ σ H → PostX X.K E G ρ σ H Q (f ρ) → t σ H Q
def xNil : Mo (List Tm) := mRet []
def xConsP (a : Mo D) (r : Mo (List Tm)) : Mo (List Tm) := mBind a fun d => mBind r fun ts => mRet (.p d :: ts)
def xConsO (a : Mo (List D)) (r : Mo (List Tm)) : Mo (List Tm) := mBind a fun ds => mBind r fun ts => mRet (.o ds :: ts)
theorem ex_nil : EX X E [] xNil := ⟨_, pa_nil, fun G ρ σ H Q j h => h G [] H j.refl trivial⟩
theorem RT.dom {K : PySem.W.Frag} {H0 H1 G H : Hp} {ρ : En} {σ : St} (d : ∀ a, H1 a = none → H0 a = none) : ∀ {vs : List V} {ts : List Tm}, RT K H1 G H ρ σ vs ts → RT K H0 G H ρ σ vs ts
  | [], [], _ => trivial
  | v :: vs, .p e :: ts, h => ⟨h.1, RT.dom d h.2⟩
  | v :: vs, .o es :: ts, h => by
    obtain ⟨⟨a, us, h1, h2, h3⟩, h4⟩ := h
    exact ⟨⟨a, us, h1, d a h2, h3⟩, RT.dom d h4⟩
theorem RT.fresh {K : PySem.W.Frag} {H0 G H : Hp} {ρ : En} {σ : St} : ∀ {vs : List V} {ts : List Tm} (i : Nat) {es : List D} {b : Addr}, RT K H0 G H ρ σ vs ts → ts[i]? = some (.o es) → vs[i]? = some (.ref b) → H0 b = none
  | [], [], _, _, _, _, h, _ => by simp at h
  | v :: vs, .p e :: ts, 0, _, _, _, h, _ => by cases h
  | v :: vs, .p e :: ts, i + 1, _, _, h, h1, h2 => RT.fresh i h.2 h1 h2
  | v :: vs, .o e :: ts, 0, _, b, h, h1, h2 => by
    obtain ⟨⟨a, us, z1, z2, _⟩, _⟩ := h
    have e2 : v = .ref b := Option.some.inj h2
    rw [e2] at z1
    cases z1
    exact z2
  | v :: vs, .o e :: ts, i + 1, _, _, h, h1, h2 => RT.fresh i h.2 h1 h2
theorem ex_consP {e : Expr} {es : List Expr} {f : Mo D} {g : Mo (List Tm)} (h : EV X E e f) (hr : EX X E es g) (hs : starEach (e :: es) X.env = (false, eval e X.env) :: starEach es X.env := by rfl) : EX X E (e :: es) (xConsP f g) := by
  obtain ⟨t, p, q⟩ := h
  obtain ⟨t2, p2, q2⟩ := hr
  refine ⟨_, pa_cons p p2 hs, fun G ρ σ H Q j h => q G ρ σ H _ j ?_⟩
  unfold xConsP mBind at h
  cases h1 : f ρ with
  | none => simp only [h1] at h; exact h
  | some r1 =>
    cases r1 with
    | error x => simp only [h1] at h; exact h
    | ok pr =>
      obtain ⟨ρ1, d⟩ := pr
      simp only [h1] at h
      intro G1 v H1 e1 rv
      refine q2 G1 ρ1 σ H1 _ e1.j ?_
      cases h2 : g ρ1 with
      | none => simp only [h2] at h; exact h
      | some r2 =>
        cases r2 with
        | error x => simp only [h2] at h; exact fun C dx H' z => h C dx H' (XP.trans e1 z)
        | ok pr2 =>
          obtain ⟨ρ2, ts⟩ := pr2
          simp only [h2] at h
          exact fun G2 vs H2 e2 rt => h G2 (v :: vs) H2 (e1.trans e2) ⟨rv.mono e2.g, rt.dom e1.dom⟩
theorem ex_consO {e : Expr} {es : List Expr} {f : Mo (List D)} {g : Mo (List Tm)} (h : EN X E e f) (hr : EX X E es g) (hs : starEach (e :: es) X.env = (false, eval e X.env) :: starEach es X.env := by rfl) : EX X E (e :: es) (xConsO f g) := by
  obtain ⟨t, p, q⟩ := h
  obtain ⟨t2, p2, q2⟩ := hr
  refine ⟨_, pa_cons p p2 hs, fun G ρ σ H Q j h => q G ρ σ H _ j ?_⟩
  unfold xConsO mBind at h
  cases h1 : f ρ with
  | none => simp only [h1] at h; exact h
  | some r1 =>
    cases r1 with
    | error x => simp only [h1] at h; exact h
    | ok pr =>
      obtain ⟨ρ1, ds⟩ := pr
      simp only [h1] at h
      intro G1 v H1 e1 rv
      obtain ⟨a, us, rfl, z1, z2, z3, no, z4⟩ := rv
      refine q2 G1 ρ1 σ H1 _ e1.j ?_
      cases h2 : g ρ1 with
      | none => simp only [h2] at h; exact h
      | some r2 =>
        cases r2 with
        | error x => simp only [h2] at h; exact fun C dx H' z => h C dx H' (XP.trans e1 z)
        | ok pr2 =>
          obtain ⟨ρ2, ts⟩ := pr2
          simp only [h2] at h
          intro G2 vs H2 e2 rt
          refine h G2 (.ref a :: vs) H2 (e1.trans e2) ⟨⟨a, us, rfl, z1, ?_, e2.kept a _ z3 no, ?_, z4.mono e2.g, fun i es hi hv => ?_⟩, rt.dom e1.dom⟩
          · cases y : G2 a with
            | none => rfl
            | some o =>
              rcases e2.new a (by rw [y]; simp) with w1 | w1 | w1
              · exact absurd z2 w1
              · rw [z3] at w1; cases w1
              · exact absurd w1 no
          · intro w1
            rcases e2.ow a w1 with w2 | w2
            · exact no w2
            · rw [z3] at w2; cases w2
          · have w1 := rt.fresh i hi hv
            rw [z3] at w1
            cases w1
/-- one of them to its name -/
def slOf : Tm → Sl
  | .p d => .pur d
  | .o ds => .own ds
theorem ownd_set {ρ : En} {σ : St} {i : Nat} {s : Sl} {v : V} {b : Addr} (h : Ownd (ρ.set i s) (σ.set i (some v)) b) : Ownd ρ σ b ∨ ((∃ ds, s.ls = some ds) ∧ v = .ref b) := by
  obtain ⟨k, s0, es, q1, hl, q2⟩ := h
  rcases getElem?_set_cases q1 with ⟨e1, e2⟩ | ⟨e1, e2⟩
  · rcases getElem?_set_cases q2 with ⟨_, e4⟩ | ⟨e3, _⟩
    · exact .inr ⟨⟨es, by rw [← e2]; exact hl⟩, (Option.some.inj e4).symm⟩
    · exact absurd e1 e3
  · rw [List.getElem?_set_ne (Ne.symm e1)] at q2
    exact .inl ⟨k, s0, es, e2, hl, q2⟩
theorem RT.no {K : PySem.W.Frag} {H0 G H : Hp} {ρ ρ1 : En} {σ σ1 : St} : ∀ {vs : List V} {ts : List Tm} (_ : ∀ b, Ownd ρ1 σ1 b → Ownd ρ σ b ∨ ∀ (i : Nat) es, ts[i]? = some (.o es) → vs[i]? ≠ some (.ref b)), RT K H0 G H ρ σ vs ts → RT K H0 G H ρ1 σ1 vs ts
  | [], [], _, _ => trivial
  | v :: vs, .p e :: ts, n, h => ⟨h.1, RT.no (fun b hb => (n b hb).imp id fun z i es q => z (i + 1) es q) h.2⟩
  | v :: vs, .o es :: ts, n, h => by
    obtain ⟨⟨a, us, h1, h2, h3, h4, h5, h6⟩, h7⟩ := h
    refine ⟨⟨a, us, h1, h2, h3, h4, fun z => ?_, h6⟩, RT.no (fun b hb => (n b hb).imp id fun z i es q => z (i + 1) es q) h7⟩
    rcases n a z with w | w
    · exact h5 w
    · exact w 0 es rfl (congrArg some h1)
theorem RT.put {K : PySem.W.Frag} {G H G' H' : Hp} {ρ ρ' : En} {σ σ' : St} {v : V} {vs : List V} {tm : Tm} {ts : List Tm} (e : Ex K G ρ σ H G' ρ' σ' H') (i : Nat) (r : RT K H G' H' ρ' σ' (v :: vs) (tm :: ts)) :
    Ex K G ρ σ H G' (ρ'.set i (slOf tm)) (σ'.set i (some v)) H' ∧ RT K H G' H' (ρ'.set i (slOf tm)) (σ'.set i (some v)) vs ts := by
  cases tm with
  | p d =>
    obtain ⟨h1, h2⟩ := r
    refine ⟨e.trans (Ex.set e.j i h1), RT.no (fun b hb => ?_) h2⟩
    rcases ownd_set hb with z | ⟨⟨_, z⟩, _⟩
    · exact .inl z
    · cases z
  | o ds =>
    obtain ⟨⟨a, us, h1, h2, h3, h4, h5, h6, h7⟩, h8⟩ := r
    refine ⟨e.setOwn i ⟨a, us, h1, h2, h3, h4, h5, h6⟩, RT.no (fun b hb => ?_) h8⟩
    rcases ownd_set hb with z | ⟨_, z⟩
    · exact .inl z
    · have e3 : a = b := by rw [h1] at z; exact V.ref.inj z
      subst e3
      exact .inr h7
theorem RT.nil {K : PySem.W.Frag} {H0 G H : Hp} {ρ : En} {σ : St} {vs : List V} (h : RT K H0 G H ρ σ vs []) : vs = [] := by
  cases vs with
  | nil => rfl
  | cons v vs => exact h.elim
theorem RT.cons {K : PySem.W.Frag} {H0 G H : Hp} {ρ : En} {σ : St} {vs : List V} {t : Tm} {ts : List Tm} (h : RT K H0 G H ρ σ vs (t :: ts)) : ∃ v ws, vs = v :: ws := by
  cases vs with
  | nil => cases t <;> exact h.elim
  | cons v vs => exact ⟨_, _, rfl⟩
def sPar2 (i j : Nat) (f : Mo (List Tm)) : Mo Fl := mBind f fun ts ρ => match ts with
  | [x, y] => some (.ok ((ρ.set i (slOf x)).set j (slOf y), .nx))
  | _ => none
def sPar3 (i j k : Nat) (f : Mo (List Tm)) : Mo Fl := mBind f fun ts ρ => match ts with
  | [x, y, z] => some (.ok (((ρ.set i (slOf x)).set j (slOf y)).set k (slOf z), .nx))
  | _ => none
theorem s_par2 {i j : Nat} {x y : Str} {a b : Expr} {f : Mo (List Tm)} {px py pt : Pos} {kt k2 : Nat} {pt2 pos : Pos} (hc : X.calm = true) (hN : X.N.Nodup) (h : EX X E [a, b] f) (hi : X.N[i]? = some x := by rfl) (hj : X.N[j]? = some y := by rfl) (hij : i ≠ j := by decide)
    (hx : X.env.scope.names.lookup x = some .local := by rfl) (hy : X.env.scope.names.lookup y = some .local := by rfl) (hw : swappedStores [.Tuple [.Name x px, .Name y py] kt pt] (.Tuple [a, b] k2 pt2) X.env = pure (some [x, y]) := by rfl) :
    SV X E (.Assign [.Tuple [.Name x px, .Name y py] kt pt] (.Tuple [a, b] k2 pt2) pos) (sPar2 i j f) := by
  obtain ⟨t, p, q⟩ := h
  refine ⟨_, ps_par hc hN hi hj hij hx hy p hw, fun G ρ σ H De jj h => q G ρ σ H _ jj ?_⟩
  unfold sPar2 mBind at h
  match hh : f ρ, h with
  | none, h => exact h.elim
  | some (.error x), h => exact h
  | some (.ok (ρ1, [t1, t2])), h =>
    intro G1 vs H1 e1 r1
    obtain ⟨v1, vs, rfl⟩ := r1.cons
    obtain ⟨e2, r2⟩ := RT.put e1 i r1
    obtain ⟨v2, vs, rfl⟩ := r2.cons
    obtain ⟨e3, r3⟩ := RT.put e2 j r2
    cases r3.nil
    exact ⟨v1, v2, rfl, h G1 _ H1 e3⟩
  | some (.ok (ρ1, [])), h => exact h.elim
  | some (.ok (ρ1, [_])), h => exact h.elim
  | some (.ok (ρ1, _ :: _ :: _ :: _)), h => exact h.elim
theorem s_par3 {i j l : Nat} {x y z : Str} {a b c : Expr} {f : Mo (List Tm)} {px py pz pt : Pos} {kt k2 : Nat} {pt2 pos : Pos} (hc : X.calm = true) (hN : X.N.Nodup) (h : EX X E [a, b, c] f) (hi : X.N[i]? = some x := by rfl) (hj : X.N[j]? = some y := by rfl) (hl : X.N[l]? = some z := by rfl) (hij : i ≠ j := by decide) (hil : i ≠ l := by decide) (hjl : j ≠ l := by decide)
    (hx : X.env.scope.names.lookup x = some .local := by rfl) (hy : X.env.scope.names.lookup y = some .local := by rfl) (hz : X.env.scope.names.lookup z = some .local := by rfl) (hw : swappedStores [.Tuple [.Name x px, .Name y py, .Name z pz] kt pt] (.Tuple [a, b, c] k2 pt2) X.env = pure (some [x, y, z]) := by rfl) :
    SV X E (.Assign [.Tuple [.Name x px, .Name y py, .Name z pz] kt pt] (.Tuple [a, b, c] k2 pt2) pos) (sPar3 i j l f) := by
  obtain ⟨t, p, q⟩ := h
  refine ⟨_, ps_par3 hc hN hi hj hl hij hil hjl hx hy hz p hw, fun G ρ σ H De jj h => q G ρ σ H _ jj ?_⟩
  unfold sPar3 mBind at h
  match hh : f ρ, h with
  | none, h => exact h.elim
  | some (.error x), h => exact h
  | some (.ok (ρ1, [t1, t2, t3])), h =>
    intro G1 vs H1 e1 r1
    obtain ⟨v1, vs, rfl⟩ := r1.cons
    obtain ⟨e2, r2⟩ := RT.put e1 i r1
    obtain ⟨v2, vs, rfl⟩ := r2.cons
    obtain ⟨e3, r3⟩ := RT.put e2 j r2
    obtain ⟨v3, vs, rfl⟩ := r3.cons
    obtain ⟨e4, r4⟩ := RT.put e3 l r3
    cases r4.nil
    exact ⟨v1, v2, v3, rfl, h G1 _ H1 e4⟩
  | some (.ok (ρ1, [])), h => exact h.elim
  | some (.ok (ρ1, [_])), h => exact h.elim
  | some (.ok (ρ1, [_, _])), h => exact h.elim
  | some (.ok (ρ1, _ :: _ :: _ :: _ :: _)), h => exact h.elim
/-! ### bools -/
def rSubB : R2 := fun x y H Q => ∃ a b : Bool, x = .bl a ∧ y = .bl b ∧ Q (.int (PyProof.Rows.b2i a - PyProof.Rows.b2i b)) H
theorem op_subB : OpR X (binaryOp .Sub) rSubB := fun pins s σ H x y v u Q I rx ry ⟨a, b, ex, ey, q⟩ => by
  subst ex ey
  rw [show v = Value.bool a from rx, show u = Value.bool b from ry]
  exact PyProof.Rows.sub_bool ⟨.int _, H, I.tok _, ⟨_, rfl⟩, q⟩
def b2n : Bool → Int
  | true => 1
  | false => 0
def subBD : D → D → Option D
  | .bool a, .bool b => some (.int (b2n a - b2n b))
  | _, _ => none
theorem b2i_n (a : Bool) : PyProof.Rows.b2i a = b2n a := by cases a <;> rfl
theorem dop_subB : DOp X (binaryOp .Sub) subBD := by
  refine ⟨_, op_subB, fun G H x y a b c Q s hx hy h k => ?_⟩
  cases hx with
  | bl i => cases hy with
    | bl j => cases h; exact ⟨i, j, rfl, rfl, by rw [b2i_n, b2i_n]; exact k G _ H (.refl s) (.int _)⟩
    | _ => cases h
  | _ => cases h
def isBD : D → D → Option D
  | .bool a, .bool b => some (.bool (decide (a = b)))
  | _, _ => none
def isNotBD : D → D → Option D
  | .bool a, .bool b => some (.bool (!decide (a = b)))
  | _, _ => none
theorem dop_isB : DOp X (compareOp .Is) isBD := by
  refine ⟨_, op_isBl, fun G H x y a b c Q s hx hy h k => ?_⟩
  cases hx with
  | bl i => cases hy with
    | bl j => cases h; exact ⟨i, j, rfl, rfl, k G _ H (.refl s) (.bl _)⟩
    | _ => cases h
  | _ => cases h
theorem dop_isNotB : DOp X (compareOp .IsNot) isNotBD := by
  refine ⟨_, op_notBl, fun G H x y a b c Q s hx hy h k => ?_⟩
  cases hx with
  | bl i => cases hy with
    | bl j => cases h; exact ⟨i, j, rfl, rfl, k G _ H (.refl s) (.bl _)⟩
    | _ => cases h
  | _ => cases h
theorem hu65 {k : Nat} {A : Around} (r : Room k A) : A.units + 65 < cLine := by have := r.un; omega
def fuelInt (i : Nat) : En → Nat := fun ρ => match ρ[i]? with
  | some (Sl.pur (.int j)) => j.toNat + 1
  | _ => 0
theorem pass_own {P : Program} {w : World} {K : PySem.W.Frag} {mg : Str → Option Value} {base : Heap} {N : List Str} {qual : Str} {scope : Scope} {f : Addr} {cd : Value} {A : Around} {outer : List PySem.Env} {s : Shared} {H : Hp} {E : XK} :
    PassesOwn (model P w) (cxOf (L2.CX P w) P w K mg base N qual scope f cd A outer s H E).A (cxOf (L2.CX P w) P w K mg base N qual scope f cd A outer s H E).env (cxOf (L2.CX P w) P w K mg base N qual scope f cd A outer s H E).xe := passes_of rfl
end
end HB
namespace HB
open PySem L2
section
variable {X : Cx} {E : XK}
/-! ### lists lent to a call that tells a plain value -/
def EVP (X : Cx) (e : Expr) (f : En → Option D) : Prop := ∃ t, PE X e t ∧ ∀ G ρ σ H Q d, J X.K G ρ σ H → f ρ = some d → (∀ v H', Same H H' → Rp X.K H' v d → Q v H') → t σ H Q
def EAP (X : Cx) (es : List Expr) (f : En → Option (List D)) : Prop := ∃ t, PA X es t ∧ ∀ G ρ σ H Q ds, J X.K G ρ σ H → f ρ = some ds → (∀ vs H', Same H H' → RpAll X.K H' vs ds → Q vs H') → t σ H Q
theorem J.up {K : PySem.W.Frag} {G H H' : Hp} {ρ : En} {σ : St} (j : J K G ρ σ H) (s : Same H H') : PX G H G H' := ⟨s, .refl _, j.sub.trans s, fun _ z => .inl z⟩
def slotD : Sl → Option D
  | .no => none
  | .pur d => some d
  | .own ds => some (.list ds)
  | .box ds => some (.list ds)
def pVar (i : Nat) : En → Option D := fun ρ => match ρ[i]? with
  | some s => slotD s
  | none => none
theorem evp_var (i : Nat) {x : Str} {pos : Pos} (hN : X.N[i]? = some x := by rfl) (hv : Vis X.env.scope x := by first | exact Or.inl rfl | exact Or.inr (Or.inl rfl) | exact Or.inr (Or.inr rfl)) (hd : (x == ("__debug__" : Str)) = false := by decide)
    (hcd : (x == ("__classdict__" : Str)) = false := by decide) : EVP X (.Name x pos) (pVar i) := by
  refine ⟨_, pe_var hN hv hd hcd, fun G ρ σ H Q d j h k => ?_⟩
  unfold pVar at h
  cases q : ρ[i]? with
  | none => rw [q] at h; cases h
  | some s =>
    rw [q] at h
    cases s with
    | no => cases h
    | pur e =>
      cases h
      obtain ⟨v, h1, h2⟩ := j.pur i _ q
      exact ⟨v, h1, k v H (.refl _) (h2.mono j.sub)⟩
    | box ds =>
      cases h
      obtain ⟨a, vs, h1, h2, h3, h4⟩ := j.own i _ _ q rfl
      exact ⟨_, h1, k _ H (.refl _) (.lst h2 (h4.mono j.sub))⟩
    | own ds =>
      cases h
      obtain ⟨a, vs, h1, h2, h3, h4⟩ := j.own i _ _ q rfl
      exact ⟨_, h1, k _ H (.refl _) (.lst h2 (h4.mono j.sub))⟩
theorem evp_int {i : Int} {k : Nat} {pos : Pos} : EVP X (.Constant (.int i) k pos) (fun _ => some (.int i)) := ⟨_, pe_int, fun G ρ σ H Q d j h k => by cases h; exact k _ H (.refl _) (.int i)⟩
def pOp (f : D → D → Option D) (a b : En → Option D) : En → Option D := fun ρ => match a ρ with
  | none => none
  | some x => match b ρ with
    | none => none
    | some y => f x y
theorem evp_ix {a b : Expr} {pos : Pos} {fa fb : En → Option D} (ha : EVP X a fa) (hb : EVP X b fb) (hs : PlainIx b := by exact fun _ _ => rfl) : EVP X (.Subscript a b pos) (pOp ixD fa fb) := by
  obtain ⟨t, p, q⟩ := ha
  obtain ⟨t2, p2, q2⟩ := hb
  refine ⟨_, pe_ix ix_seq p p2 hs, fun G ρ σ H Q d j h k => ?_⟩
  unfold pOp at h
  cases h1 : fa ρ with
  | none => simp only [h1] at h; cases h
  | some x =>
    simp only [h1] at h
    cases h2 : fb ρ with
    | none => simp only [h2] at h; cases h
    | some y =>
      simp only [h2] at h
      exact q G ρ σ H _ x j h1 fun v H1 s1 r1 => q2 G ρ σ H1 _ y (j.px (j.up s1)) h2 fun u H2 s2 r2 => ix_sem (.refl H2) (r1.mono s2) r2 h fun z rz => k z H2 (s1.trans s2) rz
def pNil : En → Option (List D) := fun _ => some []
def pCons (a : En → Option D) (r : En → Option (List D)) : En → Option (List D) := fun ρ => match a ρ with
  | none => none
  | some d => (r ρ).map (d :: ·)
theorem eap_nil : EAP X [] pNil := ⟨_, pa_nil, fun G ρ σ H Q ds j h k => by cases h; exact k [] H (.refl _) .nil⟩
theorem eap_cons {e : Expr} {es : List Expr} {f : En → Option D} {g : En → Option (List D)} (h : EVP X e f) (hr : EAP X es g) (hs : starEach (e :: es) X.env = (false, eval e X.env) :: starEach es X.env := by rfl) : EAP X (e :: es) (pCons f g) := by
  obtain ⟨t, p, q⟩ := h
  obtain ⟨t2, p2, q2⟩ := hr
  refine ⟨_, pa_cons p p2 hs, fun G ρ σ H Q ds j h k => ?_⟩
  unfold pCons at h
  cases h1 : f ρ with
  | none => simp only [h1] at h; cases h
  | some d =>
    simp only [h1] at h
    cases h2 : g ρ with
    | none => rw [h2] at h; cases h
    | some es' =>
      rw [h2] at h
      cases h
      exact q G ρ σ H _ d j h1 fun v H1 s1 r1 => q2 G ρ σ H1 _ es' (j.px (j.up s1)) h2 fun vs H2 s2 r2 => k (v :: vs) H2 (s1.trans s2) (.cons (r1.mono s2) r2)
def scal : D → Bool
  | .none => true
  | .bool _ => true
  | .int _ => true
  | .str _ => true
  | _ => false
theorem Rp.scal {K : PySem.W.Frag} {G G' : Hp} {v : V} {d : D} (r : Rp K G v d) (h : scal d = true) : Rp K G' v d := by
  cases r with
  | non => exact .non
  | bl b => exact .bl b
  | int i => exact .int i
  | str x => exact .str x
  | _ => cases h
def mLend (F : Fn) (f : En → Option (List D)) : Mo D := fun ρ => match f ρ with
  | none => none
  | some ds => match F ds with
    | some (.ok d) => (match scal d with
      | true => some (.ok (ρ, d))
      | false => none)
    | _ => none
theorem ev_lend {k : Nat} {x : Str} {ps : List Str} {F : Fn} {p pos : Pos} {e : Expr} {es : List Expr} {f : En → Option (List D)} (hF : FnE X.prog X.w X.K X.mg X.base k x ps F) (hr : Room k X.A) (hx : Passes (L2.CX X.prog X.w) X E)
    (ha : EAP X (e :: es) f) (hg : Gl X x := by rfl) (hdb : (x == ("__debug__" : Str)) = false := by decide) (he : starEach (e :: es) X.env = (false, eval e X.env) :: starEach es X.env := by rfl)
    (hpl : (backTo pos (starEach es X.env)).any (·.1) = false := by rfl) : EV X E (.Call (.Name x p) (e :: es) [] pos) (mLend F f) := by
  obtain ⟨⟨fd, h1, h2⟩, kp, gl, hl⟩ := hF
  obtain ⟨t, pt, q⟩ := ha
  refine ⟨_, pe_call h1 hr hg gl kp h2 .nil hx pt hdb he hpl, fun G ρ σ H Q j h => ?_⟩
  unfold mLend at h
  cases hf : f ρ with
  | none => rw [hf] at h; exact h.elim
  | some ds =>
    rw [hf] at h
    refine q G ρ σ H _ ds j hf fun vs H1 s1 r1 => ?_
    show spP X.K _ F (vs ++ []) H1 Q E
    rw [List.append_nil]
    cases hF : F ds with
    | none => simp only [hF] at h; exact h.elim
    | some r =>
      refine ⟨H1, ds, .refl _, r1, hl ds (by rw [hF]; simp), ?_⟩
      rw [hF]
      cases r with
      | error y => simp only [hF] at h; exact h.elim
      | ok d =>
        simp only [hF] at h
        cases hs : scal d with
        | false => simp only [hs] at h; exact h.elim
        | true =>
          simp only [hs] at h
          exact fun G' v H' px r => h G v H' (j.ex (j.up (s1.trans px.h))) (r.scal hs)
/-! ### list + list, a new list -/
def addLD : D → D → Option (List D)
  | .list xs, .list ys => if xs.length + ys.length ≤ 1000000 then some (xs ++ ys) else none
  | _, _ => none
def mAddL (a b : Mo D) : Mo (List D) := mBind a fun x => mBind b fun y => mLift (addLD x y)
theorem en_add {a b : Expr} {pos : Pos} {fa fb : Mo D} (ha : EV X E a fa) (hb : EV X E b fb) : EN X E (.BinOp a .Add b pos) (mAddL fa fb) := by
  obtain ⟨t, p, q⟩ := ha
  obtain ⟨t2, p2, q2⟩ := hb
  refine ⟨_, pe_op op_cat p p2, fun G ρ σ H Q j h => q G ρ σ H _ j (Post.impN h fun G1 ρ1 x H1 d e1 r1 h1 => ?_)⟩
  refine q2 G1 ρ1 σ H1 _ e1.j (Post.impN h1 fun G2 ρ2 y H2 d2 e2 r2 h2 => ?_)
  obtain ⟨ds, hd, k⟩ := Post.liftN h2
  have r1' := r1.mono e2.g
  cases r1' with
  | @lst a xs ds1 z1 z2 => cases r2 with
    | @lst a' ys ds2 z3 z4 =>
      obtain ⟨hz, rfl⟩ := ite_some (show (if ds1.length + ds2.length ≤ 1000000 then some (ds1 ++ ds2) else none) = some ds from hd)
      refine ⟨a, a', xs, ys, rfl, rfl, e2.j.sub _ _ z1, e2.j.sub _ _ z3, by rw [z2.length, z4.length]; exact line_of hz, fun p hp => ?_⟩
      exact k _ _ _ (new_list e2.j hp (z2.append z4)) ⟨p, _, rfl, hp, e2.j.free hp, upd_same, e2.j.nown hp, z2.append z4⟩
    | _ => cases hd
  | _ => cases hd
/-! ### texts -/
def EJ (X : Cx) (E : XK) (es : List Expr) (f : Str → Mo Str) : Prop := ∃ ts, PJ X es ts ∧ ∀ acc G ρ σ H (Q : Str → Hp → Prop), J X.K G ρ σ H → Post X.K E (fun _ (b c : Str) => b = c) G ρ σ H Q (f acc ρ) → tJs ts acc σ H Q
def strApp (acc : Str) : D → Option Str
  | .str y => if (acc ++ y).length ≤ 1000000 then some (acc ++ y) else none
  | _ => none
def jNil : Str → Mo Str := fun acc => mRet acc
def jCons (a : Mo D) (r : Str → Mo Str) : Str → Mo Str := fun acc => mBind a fun d => mBind (mLift (strApp acc d)) r
theorem ej_nil : EJ X E [] jNil := ⟨_, .nil, fun acc G ρ σ H Q j h => h G acc H j.refl rfl⟩
theorem ej_cons {e : Expr} {es : List Expr} {f : Mo D} {g : Str → Mo Str} (h : EV X E e f) (hr : EJ X E es g) : EJ X E (e :: es) (jCons f g) := by
  obtain ⟨t, p, q⟩ := h
  obtain ⟨ts, p2, q2⟩ := hr
  refine ⟨_, .cons p p2, fun acc G ρ σ H Q j h => q G ρ σ H _ j (Post.imp h fun G1 ρ1 v H1 d e1 r1 h1 => ?_)⟩
  unfold mBind mLift at h1
  cases hd : strApp acc d with
  | none => simp only [hd] at h1; exact h1.elim
  | some z =>
    simp only [hd] at h1
    cases r1 with
    | str y =>
      obtain ⟨h3, h4⟩ := ite_some (show (if (acc ++ y).length ≤ 1000000 then some (acc ++ y) else none) = some z from hd)
      subst h4
      exact ⟨y, rfl, line_of h3, q2 _ G1 ρ1 σ H1 Q e1.j h1⟩
    | _ => cases hd
def mJoined (f : Str → Mo Str) : Mo D := mBind (f Str.empty) fun x => mRet (.str x)
theorem ev_joined {v1 v2 : Expr} {rest : List Expr} {f : Str → Mo Str} {pos : Pos} (h : EJ X E (v1 :: v2 :: rest) f) : EV X E (.JoinedStr (v1 :: v2 :: rest) pos) (mJoined f) := by
  obtain ⟨ts, p, q⟩ := h
  refine ⟨_, pe_joined p, fun G ρ σ H Q j h => q Str.empty G ρ σ H _ j ?_⟩
  unfold mJoined mBind at h
  cases hf : f Str.empty ρ with
  | none => simp only [hf] at h; exact h
  | some r =>
    simp only [hf] at h
    cases r with
    | error x => exact h
    | ok pr =>
      obtain ⟨ρ1, y⟩ := pr
      exact fun G1 v H1 e1 r1 => by
        subst r1
        exact h G1 _ H1 e1 (.str _)
theorem ev_joined1 {e : Expr} {f : Mo D} {pos : Pos} (h : EV X E e f) : EV X E (.JoinedStr [e] pos) f := let ⟨t, p, q⟩ := h; ⟨t, pe_joined1 p, q⟩
def fmtD : D → Option D
  | .str y => if y.length ≤ 1000000 then some (.str y) else none
  | .int i => if i.natAbs.log2 < 1920 then some (.str (toString i)) else none
  | _ => none
theorem ev_fmt {e : Expr} {f : Mo D} {pos : Pos} (h : EV X E e f) : EV X E (.FormattedValue e (-1) none pos) (mUn fmtD f) := by
  obtain ⟨t, p, q⟩ := h
  refine ⟨_, pe_fmt p, fun G ρ σ H Q j h => q G ρ σ H _ j (Post.imp h fun G1 ρ1 v H1 d e1 r1 h1 => ?_)⟩
  obtain ⟨y, hy, k⟩ := Post.lift (ρ' := ρ1) h1
  cases r1 with
  | str z =>
    obtain ⟨h3, h4⟩ := ite_some (show (if z.length ≤ 1000000 then some (PyData.str z) else none) = some y from hy)
    subst h4
    exact .inl ⟨z, rfl, line_of h3, k G1 _ H1 e1.j.refl (.str _)⟩
  | int i =>
    obtain ⟨h3, h4⟩ := ite_some (show (if i.natAbs.log2 < 1920 then some (PyData.str (toString i)) else none) = some y from hy)
    subst h4
    exact .inr ⟨i, rfl, h3, k G1 _ H1 e1.j.refl (.str _)⟩
  | _ => cases hy
def strsD : List D → Option (List Str)
  | [] => some []
  | .str x :: r => (strsD r).map (x :: ·)
  | _ :: _ => none
theorem RpAll.strs {K : PySem.W.Frag} {G : Hp} : ∀ {xs : List V} {ds : List D} {bs : List Str}, RpAll K G xs ds → strsD ds = some bs → xs = bs.map V.str
  | _, [], _, .nil, h => by cases h; rfl
  | _, .str b :: r, bs, .cons h t, e => by
    cases h
    have e' : (strsD r).map (b :: ·) = some bs := e
    cases q : strsD r with
    | none => rw [q] at e'; cases e'
    | some cs =>
      rw [q] at e'
      cases e'
      rw [t.strs q]
      rfl
  | _, .none :: r, bs, _, e => by cases e
  | _, .bool _ :: r, bs, _, e => by cases e
  | _, .int _ :: r, bs, _, e => by cases e
  | _, .list _ :: r, bs, _, e => by cases e
  | _, .tuple _ :: r, bs, _, e => by cases e
  | _, .dict _ :: r, bs, _, e => by cases e
def mM1 (f : Str → D → Option D) (a b : Mo D) : Mo D := mBind a fun x => match x with
  | .str s => mBind b fun y => mLift (f s y)
  | _ => fun _ => none
theorem m1_sem {r : V → List V → Hp → VK → Prop} {t t2 : TE} {f : Str → D → Option D} {fo fe : Mo D} (q : ∀ G ρ σ H Q, J X.K G ρ σ H → Post X.K E (Rp X.K) G ρ σ H Q (fo ρ) → t σ H Q) (q2 : ∀ G ρ σ H Q, J X.K G ρ σ H → Post X.K E (Rp X.K) G ρ σ H Q (fe ρ) → t2 σ H Q)
    (k : ∀ G H a y d c (Q : VK), Same G H → Rp X.K G y d → f a d = some c → (∀ G' v H', PX G H G' H' → Rp X.K G' v c → Q v H') → r (.str a) [y] H Q) :
    ∀ G ρ σ H Q, J X.K G ρ σ H → Post X.K E (Rp X.K) G ρ σ H Q (mM1 f fo fe ρ) → tM1 r t t2 σ H Q := by
  intro G ρ σ H Q j h
  refine q G ρ σ H _ j (Post.imp h fun G1 ρ1 v H1 d e1 r1 h1 => ?_)
  cases r1 with
  | str a =>
    refine ⟨⟨a, rfl⟩, q2 G1 ρ1 σ H1 _ e1.j (Post.imp h1 fun G2 ρ2 y H2 d2 e2 r2 h2 => ?_)⟩
    obtain ⟨c, hc, k2⟩ := Post.lift (ρ' := ρ2) h2
    exact k G2 H2 a y d2 c Q e2.j.sub r2 hc fun G' v H' px rv => k2 G' v H' (e2.j.ex px) rv
  | _ => exact h1.elim
def joinD (a : Str) (d : D) : Option D := match itemsD d with
  | none => none
  | some ds => match strsD ds with
    | none => none
    | some ys => if (ys.map (·.length)).sum + ys.length * a.length ≤ 16777216 then some (.str (Txt.join a ys)) else none
theorem ev_join {o e : Expr} {apos pos : Pos} {fo fe : Mo D} (ho : EV X E o fo) (he : EV X E e fe) (hs : starEach [e] X.env = [(false, eval e X.env)] := by rfl) (hbase : attributeBase o "join" X.env (eval o X.env) = eval o X.env := by rfl) (hline : (apos.endLine == pos.line) = true := by rfl) :
    EV X E (.Call (.Attribute o "join" apos) [e] [] pos) (mM1 joinD fo fe) := by
  obtain ⟨t, p, q⟩ := ho
  obtain ⟨t2, p2, q2⟩ := he
  refine ⟨_, pe_join p p2 hs hbase hline, m1_sem q q2 fun G H a y d c Q s ry h k => ?_⟩
  unfold joinD at h
  cases h1 : itemsD d with
  | none => simp only [h1] at h; cases h
  | some ds =>
    simp only [h1] at h
    cases h2 : strsD ds with
    | none => simp only [h2] at h; cases h
    | some ys =>
      simp only [h2] at h
      obtain ⟨h3, h4⟩ := ite_some h
      subst h4
      obtain ⟨p0, xs, rfl, s0, r0⟩ := ry.items h1
      have e0 := r0.strs h2
      subst e0
      exact ⟨a, p0, ys, rfl, rfl, (sq_mono s s0).symm, h3, k G _ H (.refl s) (.str _)⟩
def splitD (a : Str) : D → Option D
  | .str b => match Nat.beq b.length 0 with
    | true => none
    | false => if a.length ≤ 1000000 then some (.list ((Txt.split a b).map PyData.str)) else none
  | _ => none
theorem RpAll.ofStrs {K : PySem.W.Frag} {G : Hp} : ∀ ys : List Str, RpAll K G (ys.map V.str) (ys.map PyData.str)
  | [] => .nil
  | y :: ys => .cons (.str y) (RpAll.ofStrs ys)
theorem ev_split {o e : Expr} {apos pos : Pos} {fo fe : Mo D} (ho : EV X E o fo) (he : EV X E e fe) (hs : starEach [e] X.env = [(false, eval e X.env)] := by rfl) (hbase : attributeBase o "split" X.env (eval o X.env) = eval o X.env := by rfl) (hline : (apos.endLine == pos.line) = true := by rfl) :
    EV X E (.Call (.Attribute o "split" apos) [e] [] pos) (mM1 splitD fo fe) := by
  obtain ⟨t, p, q⟩ := ho
  obtain ⟨t2, p2, q2⟩ := he
  refine ⟨_, pe_split p p2 hs hbase hline, m1_sem q q2 fun G H a y d c Q s ry h k => ?_⟩
  cases ry with
  | str b =>
    unfold splitD at h
    cases hb : Nat.beq b.length 0 with
    | true => simp only [hb] at h; cases h
    | false =>
      simp only [hb] at h
      obtain ⟨h3, h4⟩ := ite_some h
      subst h4
      refine ⟨a, b, rfl, rfl, (by cases hl : b.length with
        | zero => rw [hl] at hb; cases hb
        | succ n => rfl), Nat.le_trans (Nat.add_le_add_right h3 2) (by decide), fun p hp => ?_⟩
      have px : PX G H _ _ := .alloc s hp (.lst ((Txt.split a b).map V.str))
      exact k _ _ _ px (.lst upd_same (RpAll.ofStrs _))
  | _ => cases h
end
end HB
namespace HB
open PySem L2
/-! ### an object that is being made -/
structure Ob (K : PySem.W.Frag) (c : Str) (x : Addr) (kvs : List (D × D)) (G : Hp) (ρ : En) (σ : St) (H : Hp) : Prop where
  at_ : ∃ dx fs, H x = some (.ins (He.ga K c) dx fs) ∧ RpF K G fs kvs
  g : G x = none
  no : ¬ Ownd ρ σ x
theorem RpF.mono {K : PySem.W.Frag} {H H' : Hp} (s : Same H H') : ∀ {fs : List (Str × V)} {kvs : List (D × D)}, RpF K H fs kvs → RpF K H' fs kvs
  | _, _, .nil => .nil
  | _, _, .cons r t => .cons (r.mono s) (RpF.mono s t)
theorem RpF.len {K : PySem.W.Frag} {H : Hp} : ∀ {fs : List (Str × V)} {kvs : List (D × D)}, RpF K H fs kvs → fs.length = kvs.length
  | _, _, .nil => rfl
  | _, _, .cons _ t => congrArg (· + 1) t.len
theorem Ob.ex {K : PySem.W.Frag} {c : Str} {x : Addr} {kvs : List (D × D)} {G H G' H' : Hp} {ρ ρ' : En} {σ σ' : St} (o : Ob K c x kvs G ρ σ H) (e : Ex K G ρ σ H G' ρ' σ' H') : Ob K c x kvs G' ρ' σ' H' := by
  obtain ⟨⟨dx, fs, h1, h2⟩, g, no⟩ := o
  refine ⟨⟨dx, fs, e.kept x _ h1 no, h2.mono e.g⟩, ?_, fun z => ?_⟩
  · cases q : G' x with
    | none => rfl
    | some o =>
      rcases e.new x (by rw [q]; simp) with w | w | w
      · exact absurd g w
      · rw [h1] at w; cases w
      · exact absurd w no
  · rcases e.ow x z with w | w
    · exact no w
    · rw [h1] at w; cases w
def adrD (x : Addr) : D := .dict [(.int x, .none)]
def putK (f : Str) (d : D) : List (D × D) → List (D × D)
  | [] => [(.str f, d)]
  | (.str g, e) :: r => if f = g then (.str f, d) :: r else (.str g, e) :: putK f d r
  | p :: r => p :: putK f d r
theorem RpF.put {K : PySem.W.Frag} {H : Hp} {f : Str} {v : V} {d : D} (r : Rp K H v d) : ∀ {fs : List (Str × V)} {kvs : List (D × D)}, RpF K H fs kvs → RpF K H (putF f v fs) (putK f d kvs)
  | _, _, .nil => .cons r .nil
  | (g, u) :: fs, _, .cons (d := e) (kvs := kvs) q t => by
    by_cases h : f = g
    · subst h
      have e1 : putF f v ((f, u) :: fs) = (f, v) :: fs := by simp [putF]
      have e2 : putK f d ((.str f, e) :: kvs) = (.str f, d) :: kvs := by simp [putK]
      rw [e1, e2]
      exact .cons r t
    · have e1 : putF f v ((g, u) :: fs) = (g, u) :: putF f v fs := by simp [putF, h, Ne.symm h]
      have e2 : putK f d ((.str g, e) :: kvs) = (.str g, e) :: putK f d kvs := by simp [putK, h]
      rw [e1, e2]
      exact .cons q (RpF.put r t)
section
variable {X : Cx} {E : XK}
/-- what may read the object -/
def EVO (X : Cx) (E : XK) (c : Str) (e : Expr) (f : List (D × D) → Mo D) : Prop := ∃ t, PE X e t ∧ ∀ x kvs G ρ σ H Q, J X.K G ρ σ H → Ob X.K c x kvs G ρ σ H → σ[0]? = some (some (.ref x)) → Post X.K E (Rp X.K) G ρ σ H Q (f kvs ρ) → t σ H Q
def EAO (X : Cx) (E : XK) (c : Str) (es : List Expr) (f : List (D × D) → Mo (List D)) : Prop := ∃ t, PA X es t ∧ ∀ x kvs G ρ σ H Q, J X.K G ρ σ H → Ob X.K c x kvs G ρ σ H → σ[0]? = some (some (.ref x)) → Post X.K E (RpAll X.K) G ρ σ H Q (f kvs ρ) → t σ H Q
theorem evo_of {c : Str} {e : Expr} {f : Mo D} (h : EV X E e f) : EVO X E c e (fun _ => f) := let ⟨t, p, q⟩ := h; ⟨t, p, fun _ _ G ρ σ H Q j _ _ z => q G ρ σ H Q j z⟩
def pureF (o : Option D) : Mo D := mLift o
theorem evo_fld {c a : Str} {p pos : Pos} {s : Str} (hN : X.N[0]? = some s := by rfl) (hv : Vis X.env.scope s := by first | exact Or.inl rfl | exact Or.inr (Or.inl rfl) | exact Or.inr (Or.inr rfl)) (hd : (s == ("__debug__" : Str)) = false := by decide)
    (hcd : (s == ("__classdict__" : Str)) = false := by decide) (hc : Cls X.K (He.ga X.K c)) (hn : NoAttr X.K (He.ga X.K c) a) (hb : attributeBase (.Name s p) a X.env (eval (.Name s p) X.env) = eval (.Name s p) X.env := by rfl) : EVO X E c (.Attribute (.Name s p) a pos) (fun kvs => pureF (fldIn a kvs)) := by
  refine ⟨_, pe_fld (pe_var hN hv hd hcd) hb, fun x kvs G ρ σ H Q j o h0 h => ?_⟩
  obtain ⟨y, hy, k⟩ := Post.lift (ρ' := ρ) h
  obtain ⟨⟨dx, fs, z1, z2⟩, _, _⟩ := o
  obtain ⟨v', h4, h5⟩ := z2.look hy
  exact ⟨_, h0, x, _, dx, fs, v', rfl, z1, hc, hn, h4, k G _ H j.refl h5⟩
theorem eao_nil {c : Str} : EAO X E c [] (fun _ => mNil) := ⟨_, pa_nil, fun _ _ G ρ σ H Q j _ _ h => h G _ H j.refl .nil⟩
def oCons (f : List (D × D) → Mo D) (g : List (D × D) → Mo (List D)) : List (D × D) → Mo (List D) := fun kvs => mBind (f kvs) fun d => mBind (g kvs) fun ds => mRet (d :: ds)
theorem eao_cons {c : Str} {e : Expr} {es : List Expr} {f : List (D × D) → Mo D} {g : List (D × D) → Mo (List D)} (h : EVO X E c e f) (hr : EAO X E c es g) (hs : starEach (e :: es) X.env = (false, eval e X.env) :: starEach es X.env := by rfl) : EAO X E c (e :: es) (oCons f g) := by
  obtain ⟨t, p, q⟩ := h
  obtain ⟨t2, p2, q2⟩ := hr
  refine ⟨_, pa_cons p p2 hs, fun x kvs G ρ σ H Q j o h0 h => q x kvs G ρ σ H _ j o h0 (Post.imp h fun G1 ρ1 v H1 d e1 r1 h1 => ?_)⟩
  refine q2 x kvs G1 ρ1 σ H1 _ e1.j (o.ex e1) h0 (Post.imp h1 fun G2 ρ2 vs H2 ds e2 r2 h2 => ?_)
  exact h2 G2 _ H2 e2.j.refl (.cons (r1.mono e2.g) r2)
def oCall (F : Fn) (f : List (D × D) → Mo (List D)) : List (D × D) → Mo D := fun kvs => mCall F (f kvs)
theorem evo_call {c : Str} {k : Nat} {x : Str} {ps : List Str} {F : Fn} {p pos : Pos} {e : Expr} {es : List Expr} {f : List (D × D) → Mo (List D)} (hF : FnE X.prog X.w X.K X.mg X.base k x ps F) (hr : Room k X.A) (hx : Passes (L2.CX X.prog X.w) X E)
    (ha : EAO X E c (e :: es) f) (hg : Gl X x := by rfl) (hdb : (x == ("__debug__" : Str)) = false := by decide) (he : starEach (e :: es) X.env = (false, eval e X.env) :: starEach es X.env := by rfl)
    (hpl : (backTo pos (starEach es X.env)).any (·.1) = false := by rfl) : EVO X E c (.Call (.Name x p) (e :: es) [] pos) (oCall F f) := by
  obtain ⟨⟨fd, h1, h2⟩, kp, gl, hl⟩ := hF
  obtain ⟨t, pt, q⟩ := ha
  refine ⟨_, pe_call h1 hr hg gl kp h2 .nil hx pt hdb he hpl, fun x kvs G ρ σ H Q j o h0 h => ?_⟩
  refine q x kvs G ρ σ H _ j o h0 (Post.imp h fun G1 ρ1 vs H1 ds e1 r1 h1 => ?_)
  show spP X.K _ F (vs ++ []) H1 Q E
  rw [List.append_nil]
  have h1' : Post X.K E (Rp X.K) G1 ρ1 σ H1 Q (match F ds with
    | none => none
    | some (.error x) => some (.error x)
    | some (.ok d) => some (.ok (ρ1, d))) := h1
  cases hF : F ds with
  | none => rw [hF] at h1'; exact h1'.elim
  | some r =>
    refine ⟨G1, ds, e1.j.sub, r1, hl ds (by rw [hF]; simp), ?_⟩
    rw [hF] at h1' ⊢
    cases r with
    | error x => exact fun C dx H' z => h1' C dx H' z.of0
    | ok d => exact fun G' v H' p r => h1' G' v H' (e1.j.ex p) r
/-- the statements: the object may change -/
structure OX (K : PySem.W.Frag) (c : Str) (x : Addr) (G : Hp) (ρ : En) (σ : St) (H : Hp) (kvs' : List (D × D)) (G' : Hp) (ρ' : En) (σ' : St) (H' : Hp) : Prop where
  j : J K G' ρ' σ' H'
  g : Same G G'
  new : ∀ b, G' b ≠ none → G b ≠ none ∨ H b = none ∨ Ownd ρ σ b
  kept : ∀ b o, b ≠ x → H b = some o → ¬ Ownd ρ σ b → H' b = some o
  ow : ∀ b, Ownd ρ' σ' b → Ownd ρ σ b ∨ H b = none
  dom : ∀ b, H' b = none → H b = none
  ob : Ob K c x kvs' G' ρ' σ' H'
abbrev MoO := List (D × D) → En → Option (Except Exn (En × List (D × D)))
def PostO (K : PySem.W.Frag) (E : XK) (c : Str) (x : Addr) (G : Hp) (ρ : En) (σ : St) (H : Hp) (R : Hp → Prop) : Option (Except Exn (En × List (D × D))) → Prop
  | none => False
  | some (.error y) => ∀ C dx H', XP K G ρ σ H y C dx H' → E C dx H'
  | some (.ok (ρ', kvs')) => ∀ G' σ' H', OX K c x G ρ σ H kvs' G' ρ' σ' H' → R H'
def SO (X : Cx) (E : XK) (c : Str) (sts : List Stmt) (g : MoO) : Prop := ∃ t, PSs X sts t ∧ ∀ x kvs G ρ σ H (De : Ends), J X.K G ρ σ H → Ob X.K c x kvs G ρ σ H → σ[0]? = some (some (.ref x)) → PostO X.K E c x G ρ σ H (fun H' => ∀ σ', De.nx σ' H') (g kvs ρ) → t De σ H
theorem Ex.ox {K : PySem.W.Frag} {c : Str} {x : Addr} {kvs' : List (D × D)} {G H G1 H1 G2 H2 : Hp} {ρ ρ1 ρ2 : En} {σ σ1 σ2 : St} (e : Ex K G ρ σ H G1 ρ1 σ1 H1) (o : OX K c x G1 ρ1 σ1 H1 kvs' G2 ρ2 σ2 H2) : OX K c x G ρ σ H kvs' G2 ρ2 σ2 H2 where
  j := o.j
  g := e.g.trans o.g
  new := fun b hb => by
    rcases o.new b hb with z | z | z
    · exact e.new b z
    · exact .inr (.inl (e.dom b z))
    · rcases e.ow b z with z | z
      · exact .inr (.inr z)
      · exact .inr (.inl z)
  kept := fun b o' hb q n => o.kept b o' hb (e.kept b o' q n) fun z => by
    rcases e.ow b z with z | z
    · exact n z
    · rw [q] at z; cases z
  ow := fun b hb => by
    rcases o.ow b hb with z | z
    · exact e.ow b z
    · exact .inr (e.dom b z)
  dom := fun b hb => e.dom b (o.dom b hb)
  ob := o.ob
theorem OX.trans {K : PySem.W.Frag} {c : Str} {x : Addr} {kvs kvs' : List (D × D)} {G H G1 H1 G2 H2 : Hp} {ρ ρ1 ρ2 : En} {σ σ1 σ2 : St} (e : OX K c x G ρ σ H kvs G1 ρ1 σ1 H1) (o : OX K c x G1 ρ1 σ1 H1 kvs' G2 ρ2 σ2 H2) : OX K c x G ρ σ H kvs' G2 ρ2 σ2 H2 where
  j := o.j
  g := e.g.trans o.g
  new := fun b hb => by
    rcases o.new b hb with z | z | z
    · exact e.new b z
    · exact .inr (.inl (e.dom b z))
    · rcases e.ow b z with z | z
      · exact .inr (.inr z)
      · exact .inr (.inl z)
  kept := fun b o' hb q n => o.kept b o' hb (e.kept b o' hb q n) fun z => by
    rcases e.ow b z with z | z
    · exact n z
    · rw [q] at z; cases z
  ow := fun b hb => by
    rcases o.ow b hb with z | z
    · exact e.ow b z
    · exact .inr (e.dom b z)
  dom := fun b hb => e.dom b (o.dom b hb)
  ob := o.ob
/-- a field is written -/
theorem Ob.store {K : PySem.W.Frag} {c : Str} {x : Addr} {kvs : List (D × D)} {G H : Hp} {ρ : En} {σ : St} {f : Str} {v : V} {d : D} {dx : Addr} {fs : List (Str × V)} (j : J K G ρ σ H) (o : Ob K c x kvs G ρ σ H) (h1 : H x = some (.ins (He.ga K c) dx fs)) (h2 : RpF K G fs kvs) (r : Rp K G v d) :
    OX K c x G ρ σ H (putK f d kvs) G ρ σ (upd H x (.ins (He.ga K c) dx (putF f v fs))) := by
  have ne : ∀ b, G b ≠ none → b ≠ x := fun b hb e => by subst e; exact hb o.g
  refine ⟨⟨fun b o' q => ?_, j.len, j.pur, fun i s ds q hl => ?_, j.dis⟩, .refl _, fun b hb => .inl hb, fun b o' hb q _ => by rw [upd_ne hb]; exact q, fun b hb => .inl hb, fun b hb => ?_, ⟨⟨dx, _, upd_same, h2.put r⟩, o.g, o.no⟩⟩
  · rw [upd_ne (ne b (by rw [q]; simp))]
    exact j.sub _ _ q
  · obtain ⟨a, vs, z1, z2, z3, z4⟩ := j.own i s ds q hl
    refine ⟨a, vs, z1, ?_, z3, z4⟩
    rw [upd_ne (fun e => by subst e; rw [z2] at h1; cases h1)]
    exact z2
  · by_cases e : b = x
    · subst e; rw [upd_same] at hb; cases hb
    · rw [upd_ne e] at hb; exact hb
def oEnd : MoO := fun kvs ρ => some (.ok (ρ, kvs))
theorem so_nil {c : Str} : SO X E c [] oEnd := ⟨_, pss_nil, fun x kvs G ρ σ H De j o h0 h => h G σ H ⟨j, .refl _, fun _ z => .inl z, fun _ _ _ q _ => q, fun _ z => .inl z, fun _ z => z, o⟩ σ⟩
def oPut (f : Str) (v : List (D × D) → Mo D) (g : MoO) : MoO := fun kvs ρ => match v kvs ρ with
  | some (.ok (ρ1, d)) => (match Nat.blt kvs.length 1000 with
    | true => (match g (putK f d kvs) ρ1 with
      | some (.ok r) => some (.ok r)
      | _ => none)
    | false => none)
  | _ => none
theorem so_put {c f s : Str} {e : Expr} {v : List (D × D) → Mo D} {g : MoO} {rest : List Stmt} {p pos pos' : Pos} (hv : EVO X E c e v) (hr : SO X E c rest g) (hc : Cls X.K (He.ga X.K c)) (hn : NoAttr X.K (He.ga X.K c) f) (hN : X.N[0]? = some s := by rfl)
    (hvv : Vis X.env.scope s := by first | exact Or.inl rfl | exact Or.inr (Or.inl rfl) | exact Or.inr (Or.inr rfl)) (hd : (s == ("__debug__" : Str)) = false := by decide) (hcd : (s == ("__classdict__" : Str)) = false := by decide)
    (hs : swapsWith e (some (.Attribute (.Name s p) f pos')) pos.line X.env = pure false := by rfl) : SO X E c (.Assign [.Attribute (.Name s p) f pos'] e pos :: rest) (oPut f v g) := by
  obtain ⟨t, pt, q⟩ := hv
  obtain ⟨t2, p2, q2⟩ := hr
  refine ⟨_, pss_cons (ps_fld (pe_var hN hvv hd hcd) pt hs) p2, fun x kvs G ρ σ H De j o h0 h => ?_⟩
  unfold oPut at h
  cases h1 : v kvs ρ with
  | none => simp only [h1] at h; exact h.elim
  | some r =>
    cases r with
    | error y => simp only [h1] at h; exact h.elim
    | ok pr =>
      obtain ⟨ρ1, d⟩ := pr
      simp only [h1] at h
      cases hsb : Nat.blt kvs.length 1000 with
      | false => simp only [hsb] at h; exact h.elim
      | true =>
        simp only [hsb] at h
        refine q x kvs G ρ σ H _ j o h0 ?_
        rw [h1]
        intro G1 y H1 e1 r1
        have o1 := o.ex e1
        obtain ⟨dx, fs, y1, y2⟩ := o1.at_
        have st := Ob.store (f := f) e1.j o1 y1 y2 r1
        refine ⟨_, h0, x, _, dx, fs, rfl, y1, hc, hn, ?_, ?_⟩
        · rw [y2.len]
          exact of_decide_eq_true (by simpa [Nat.blt_eq] using hsb)
        · refine q2 x (putK f d kvs) G1 ρ1 σ _ De st.j st.ob h0 ?_
          cases h3 : g (putK f d kvs) ρ1 with
          | none => simp only [h3] at h; exact h.elim
          | some r3 =>
            cases r3 with
            | error y => simp only [h3] at h; exact h.elim
            | ok pr3 =>
              obtain ⟨ρ3, kvs3⟩ := pr3
              simp only [h3] at h
              exact fun G3 σ3 H3 o3 => h G3 σ3 H3 (e1.ox (st.trans o3))
/-- if test: raise .. -/
def oIf (c : Mo Bool) (a : Mo Fl) (g : MoO) : MoO := fun kvs ρ => match c ρ with
  | none => none
  | some (.error y) => some (.error y)
  | some (.ok (ρ1, true)) => (match a ρ1 with
    | some (.error y) => some (.error y)
    | _ => none)
  | some (.ok (ρ1, false)) => g kvs ρ1
theorem so_if {c : Str} {e : Expr} {body rest : List Stmt} {pos : Pos} {fc : Mo Bool} {a : Mo Fl} {g : MoO} (hc : ET X E e fc) (ha : SVs X E body a) (h2 : SO X E c rest g) : SO X E c (.If e body [] pos :: rest) (oIf fc a g) := by
  obtain ⟨t0, p0, q0⟩ := hc
  obtain ⟨t, p, q⟩ := ha
  obtain ⟨t2, p2, q2⟩ := h2
  refine ⟨_, pss_cons (ps_if p0 p pss_nil) p2, fun x kvs G ρ σ H De j o h0 h => ?_⟩
  refine q0 G ρ σ H _ j ?_
  unfold oIf at h
  match hc : fc ρ, h with
  | none, h => exact h.elim
  | some (.error y), h => exact h
  | some (.ok (ρ1, true)), h =>
    intro G1 b H1 e1 r1
    subst r1
    refine q G1 ρ1 σ H1 _ e1.j ?_
    match ha : a ρ1, h with
    | none, h => simp only [ha] at h; exact h.elim
    | some (.error y), h => simp only [ha] at h; exact fun C dx H' z => h C dx H' (XP.trans e1 z)
    | some (.ok (ρ2, f)), h => simp only [ha] at h; exact h.elim
  | some (.ok (ρ1, false)), h =>
    intro G1 b H1 e1 r1
    subst r1
    refine q2 x kvs G1 ρ1 σ H1 De e1.j (o.ex e1) h0 ?_
    match hg : g kvs ρ1, h with
    | none, h => simp only [hg] at h; exact h.elim
    | some (.error y), h => simp only [hg] at h; exact fun C dx H' z => h C dx H' (XP.trans e1 z)
    | some (.ok (ρ2, kvs2)), h => simp only [hg] at h; exact fun G2 σ2 H2 o2 => h G2 σ2 H2 (e1.ox o2)
end
/-! ### __init__ and the class called -/
abbrev FnI := List D → Option (Except Exn (List (D × D)))
def PostK (K : PySem.W.Frag) (E : XK) (c : Str) (x : Addr) (G H : Hp) (Q : VK) : Option (Except Exn (List (D × D))) → Prop
  | none => False
  | some (.error y) => ∀ C dx H', XP K G [] [] H y C dx H' → E C dx H'
  | some (.ok kvs) => ∀ G' H', Same G G' → (∀ b, G' b ≠ none → G b ≠ none ∨ H b = none) → Same G' H' → (∀ b o, b ≠ x → H b = some o → H' b = some o) → G' x = none → (∃ dx fs, H' x = some (.ins (He.ga K c) dx fs) ∧ RpF K G' fs kvs) → Q .non H'
def spI (K : PySem.W.Frag) (c : Str) (n : Nat) (F : FnI) : Sp := fun vs H Q E => ∃ x dx us ds G, vs = .ref x :: us ∧ H x = some (.ins (He.ga K c) dx []) ∧ Same G H ∧ G x = none ∧ RpAll K G us ds ∧ ds.length = n ∧ PostK K E c x G H Q (F ds)
structure MkE (P : Program) (w : World) (K : PySem.W.Frag) (mg : Str → Option Value) (base : Heap) (k : Nat) (c : Str) (n : Nat) (F : FnI) : Prop where
  maker : Mk K (He.ga K c) (He.ma K (He.ga K c) "__init__")
  ex : ∃ fd ps, FnOk P w K mg base (L2.CX P w) k (He.ma K (He.ga K c) "__init__") fd ps (spI K c n F) ∧ Binds K fd ps []
  gl : mg c = some (.ref (He.ga K c))
  ln : ∀ ds, F ds ≠ none → ds.length = n
def mMake (c : Str) (F : FnI) (a : Mo (List D)) : Mo D := mBind a fun ds ρ => match F ds with
  | none => none
  | some (.error x) => some (.error x)
  | some (.ok kvs) => some (.ok (ρ, .dict ((.str c, .none) :: kvs)))
section
variable {X : Cx} {E : XK}
theorem make_sem {c : Str} {F : FnI} {n : Nat} {t : TA} {f : Mo (List D)} (q : ∀ G ρ σ H Q, J X.K G ρ σ H → Post X.K E (RpAll X.K) G ρ σ H Q (f ρ) → t σ H Q) (hl : ∀ ds, F ds ≠ none → ds.length = n) :
    ∀ G ρ σ H Q, J X.K G ρ σ H → Post X.K E (Rp X.K) G ρ σ H Q (mMake c F f ρ) → tMake (He.ga X.K c) (spI X.K c n F) [] E t σ H Q := by
  intro G ρ σ H Q j h
  refine q G ρ σ H _ j (Post.imp h fun G1 ρ1 vs H1 ds e1 r1 h1 => ?_)
  intro x dx hx hdx hne
  rw [List.append_nil]
  have h1' : Post X.K E (Rp X.K) G1 ρ1 σ H1 Q (match F ds with
    | none => none
    | some (.error x) => some (.error x)
    | some (.ok kvs) => some (.ok (ρ1, .dict ((.str c, .none) :: kvs)))) := h1
  have s12 : Same H1 (upd (upd H1 dx (.own x)) x (.ins (He.ga X.K c) dx [])) := (same_upd hdx).trans (same_upd (by rw [upd_ne (Ne.symm hne)]; exact hx))
  have j1 := e1.j
  have ne : ∀ b, H1 b = none ∨ (upd (upd H1 dx (.own x)) x (.ins (He.ga X.K c) dx [])) b ≠ none := fun b => by
    cases q : H1 b with
    | none => exact .inl rfl
    | some o => exact .inr (by rw [s12 _ _ q]; simp)
  cases hF : F ds with
  | none => rw [hF] at h1'; exact h1'.elim
  | some r =>
    refine ⟨x, dx, vs, ds, G1, rfl, upd_same, j1.sub.trans s12, j1.sub.free hx, r1, hl ds (by rw [hF]; simp), ?_⟩
    rw [hF] at h1' ⊢
    cases r with
    | error y => exact fun C d H' z => h1' C d H' (XP.trans (j1.ex (j1.up s12)) z.of0)
    | ok kvs =>
      intro G' H' g new sb kept gx ob
      refine ⟨rfl, ?_⟩
      obtain ⟨d', fs, z1, z2⟩ := ob
      have sg : Same G' (upd G' x (.ins (He.ga X.K c) d' fs)) := same_upd gx
      have px : PX G1 H1 (upd G' x (.ins (He.ga X.K c) d' fs)) H' := by
        refine ⟨fun b o hb => kept b o (fun e => by subst e; rw [hx] at hb; cases hb) (s12 _ _ hb), g.trans sg, fun b o hb => ?_, fun b hb => ?_⟩
        · by_cases e : b = x
          · subst e; rw [upd_same] at hb; rw [z1]; exact hb
          · rw [upd_ne e] at hb; exact sb _ _ hb
        · by_cases e : b = x
          · subst e; exact .inr hx
          · rw [upd_ne e] at hb
            rcases new b hb with w | w
            · exact .inl w
            · rcases ne b with u | u
              · exact .inr u
              · exact absurd w u
      exact h1' _ _ H' (j1.ex px) (.obj upd_same (z2.mono sg))
theorem ev_make {k n : Nat} {c : Str} {F : FnI} {p pos : Pos} {e : Expr} {es : List Expr} {f : Mo (List D)} (hF : MkE X.prog X.w X.K X.mg X.base k c n F) (hr : Room (k + 1) X.A) (hx : Passes (L2.CX X.prog X.w) X E)
    (ha : EA X E (e :: es) f) (hg : Gl X c := by rfl) (hdb : (c == ("__debug__" : Str)) = false := by decide) (he : starEach (e :: es) X.env = (false, eval e X.env) :: starEach es X.env := by rfl)
    (hpl : (backTo pos (starEach es X.env)).any (·.1) = false := by rfl) : EV X E (.Call (.Name c p) (e :: es) [] pos) (mMake c F f) := by
  obtain ⟨M, ⟨fd, ps, h1, h2⟩, gl, hl⟩ := hF
  obtain ⟨t, pt, q⟩ := ha
  exact ⟨_, pe_make M h1 hr hg gl h2 .nil hx pt hdb he hpl, make_sem q hl⟩
end
theorem J.cons0 {K : PySem.W.Frag} {G H : Hp} {ρ : En} {σ : St} {o : Option V} (j : J K G ρ σ H) : J K G (.no :: ρ) (o :: σ) H := by
  refine ⟨j.sub, congrArg (· + 1) j.len, fun i d h => ?_, fun i s ds h hl => ?_, fun i k s t ds es b h1 l1 h2 l2 h3 h4 => ?_⟩
  · cases i with
    | zero => cases h
    | succ i => exact j.pur i d h
  · cases i with
    | zero => cases h; cases hl
    | succ i => exact j.own i s ds h hl
  · cases i with
    | zero => cases h1; cases l1
    | succ i => cases k with
      | zero => cases h2; cases l2
      | succ k => exact congrArg (· + 1) (j.dis i k s t ds es b h1 l1 h2 l2 h3 h4)
theorem ownd_cons0 {ρ : En} {σ : St} {o : Option V} {b : Addr} (h : Ownd (.no :: ρ) (o :: σ) b) : Ownd ρ σ b := by
  obtain ⟨i, s, ds, h1, hl, h2⟩ := h
  cases i with
  | zero => cases h1; cases hl
  | succ i => exact ⟨i, s, ds, h1, hl, h2⟩
def runI (n : Nat) (g : MoO) : FnI := fun ds => match g [] (.no :: (ds.map Sl.pur ++ List.replicate (n - ds.length) Sl.no)) with
  | none => none
  | some (.error y) => some (.error y)
  | some (.ok (_, kvs)) => some (.ok kvs)
def guardI (n : Nat) (F : FnI) : FnI := fun ds => match Nat.beq ds.length n with
  | true => F ds
  | false => none
theorem start_cons {x : Str} {N : List Str} {v : V} {vs : List V} : start (x :: N) (v :: vs) = some v :: start N vs := by
  unfold L2.start
  simp [Nat.succ_sub_succ]
theorem init_ok {P : Program} {w : World} {K : PySem.W.Frag} {mg : Str → Option Value} {base : Heap} {c qual self : Str} {st : Stmt} {fd : FuncData} {N ps : List Str} {k : Nat} {g : MoO} (F : FunD K "__init__" qual (defArgs st) (defBody st) (defScope st) [] [] (He.ma K (He.ga K c) "__init__") fd) (S : FnScope (self :: N) (self :: ps) (defScope st))
    (M : Mk K (He.ga K c) (He.ma K (He.ga K c) "__init__")) (gl : mg c = some (.ref (He.ga K c)))
    (b : ∀ (kV doc pm : Value) (an : Option Addr) (cdv ct : Value) (us : List Value), us.length = (self :: ps).length → bindArgs (PySem.W.fnOf "__init__" qual (defArgs st) (defBody st) (defScope st) .none kV doc pm an cdv ct) ⟨us, []⟩ = pure ((self :: ps).zip us))
    (hb : ∀ (cdv : Value) (A : Around) (outer : List PySem.Env) (s : Shared) (H : Hp) (E : XK), Room k (A.deeper (PyProof.Rows.envOfC qual (defScope st) s.heap.objs.size (He.ma K (He.ga K c) "__init__") cdv)) → SO (cxOf (L2.CX P w) P w K mg base (self :: N) qual (defScope st) (He.ma K (He.ga K c) "__init__") cdv A outer s H E) E c (defBody st) g) :
    MkE P w K mg base (k + 1) c ps.length (guardI ps.length (runI N.length g)) := by
  have gl2 : ∀ ds, guardI ps.length (runI N.length g) ds ≠ none → ds.length = ps.length := fun ds h => by
    unfold guardI at h
    cases q : Nat.beq ds.length ps.length with
    | true => exact Nat.eq_of_beq_eq_true q
    | false => rw [q] at h; exact absurd rfl h
  refine ⟨M, ⟨fd, self :: ps, F.ok S (fun vs H Q E h => ?_) fun cdv A outer s H vs Q E hr h => ?_, F.bindsN b⟩, gl, gl2⟩
  · obtain ⟨x, dx, us, ds, G, rfl, _, _, _, r, hl, _⟩ := h
    show us.length + 1 = ps.length + 1
    rw [r.length, hl]
  · obtain ⟨t, p, q⟩ := hb cdv A outer s H E hr
    refine ⟨t, p, ?_⟩
    obtain ⟨x, dx, us, ds, G, rfl, hx, sb, gx, r, hl, k⟩ := h
    rw [start_cons]
    have j0 : J K G (.no :: (ds.map Sl.pur ++ List.replicate (N.length - ds.length) Sl.no)) (some (.ref x) :: start N us) H := (start_j sb r).cons0
    have no : ∀ b, ¬ Ownd (.no :: (ds.map Sl.pur ++ List.replicate (N.length - ds.length) Sl.no)) (some (.ref x) :: start N us) b := fun b z => start_no (ownd_cons0 z)
    refine q x [] G _ _ H _ j0 ⟨⟨dx, [], hx, .nil⟩, gx, no x⟩ rfl ?_
    unfold guardI at k
    have e0 : Nat.beq ds.length ps.length = true := by rw [hl]; exact Nat.beq_refl _
    rw [e0] at k
    unfold runI at k
    match hg : g [] (.no :: (ds.map Sl.pur ++ List.replicate (N.length - ds.length) Sl.no)), k with
    | none, k => simp only [hg] at k; exact k.elim
    | some (.error y), k => simp only [hg] at k; exact fun C d H' z => k C d H' (z.to0 no)
    | some (.ok (ρ', kvs)), k =>
      simp only [hg] at k
      intro G' σ' H' o
      intro σ''
      exact k G' H' o.g (fun b hb => (o.new b hb).elim .inl fun z => z.elim .inr fun z => absurd z (no b)) o.j.sub (fun b o' hb q => o.kept b o' hb q (no b)) o.ob.g o.ob.at_
end HB
namespace HB
open PySem L2
/-! ### the head: facts by names, with tuples -/
abbrev AlX : Type := He.AlD × Bool
def obsX (fa : List He.Fa) (fn : List He.DefD) (tp : List (Str × List He.Dv)) (K : PySem.W.Frag) : AlX := (He.obsD fa fn K, tp.all fun p => He.tupB K p.1 p.2)
def obsXG (n : Nat) (fa : List He.Fa) (fn : List He.DefD) (tp : List (Str × List He.Dv)) (g : Addr → Option Obj) : AlX := obsX fa fn tp (He.frG g (He.asD g n))
def hookX (n : Nat) (fa : List He.Fa) (fn : List He.DefD) (tp : List (Str × List He.Dv)) : PySem.W.Hook where
  α := AlX
  obs := fun s => obsXG n fa fn tp s.heap.get?
  val := fun _ => (He.valD fn, true)
  says := fun _ h => ∃ K : PySem.W.Frag, K.In h ∧ He.SaysD fa fn K ∧ (tp.all fun p => He.tupB K p.1 p.2) = true
  of := fun _ _ e => ⟨_, He.frG_in, congrArg Prod.fst e, congrArg Prod.snd e⟩
  keeps := fun _ _ _ y k => let ⟨K, hK, said⟩ := y; ⟨K, hK.keeps k, said⟩
theorem obsXG_eq {n : Nat} {fa : List He.Fa} {fn : List He.DefD} {tp : List (Str × List He.Dv)} {g : Addr → Option Obj} {s : Shared} (h : ∀ a, g a = s.heap.get? a) : obsXG n fa fn tp g = (hookX n fa fn tp).obs s := by
  rw [show g = fun a => s.heap.get? a from funext h]
  rfl
theorem tp_ok {tp : List (Str × List He.Dv)} {K : PySem.W.Frag} (c : (tp.all fun p => He.tupB K p.1 p.2) = true) (i : Nat) {p : Str × List He.Dv} (h : tp[i]? = some p := by rfl) : He.tupB K p.1 p.2 = true :=
  List.all_eq_true.mp c p (List.mem_of_getElem? h)
/-- plain values in a tuple -/
def dvD : He.Dv → D
  | .bl b => .bool b
  | .int i => .int i
  | .str x => .str x
  | _ => .none
def dvOk : He.Dv → Bool
  | .non => true
  | .bl _ => true
  | .int _ => true
  | .str _ => true
  | _ => false
theorem dv_rp {K : PySem.W.Frag} {H : Hp} : ∀ vs : List He.Dv, vs.all dvOk = true → RpAll K H (vs.map (He.Dv.v K)) (vs.map dvD)
  | [], _ => .nil
  | v :: vs, h => by
    obtain ⟨h1, h2⟩ := He.ba (show (dvOk v && vs.all dvOk) = true from h)
    refine .cons ?_ (dv_rp vs h2)
    cases v with
    | non => exact .non
    | bl b => exact .bl b
    | int i => exact .int i
    | str x => exact .str x
    | _ => cases h1
section
variable {mg : Str → Option Value} {K : PySem.W.Frag} {h : Heap}
theorem gl_tup {x : Str} {vs : List He.Dv} {ds : List D} (X : K.In h) (G : h.Ns mainGlobals mg) (c1 : (He.Fa.glo x).ok K = true) (c2 : He.tupB K x vs = true) (ok : vs.all dvOk = true) (e : vs.map dvD = ds) : GlD K mg x (.tuple ds) := by
  subst e
  exact ⟨.ref (He.ga K x), .ref (He.ga K x), He.glo_ok X G c1, rfl, fun H => .tup (He.tupB_ok c2 H) (dv_rp vs ok)⟩
theorem gl_int {x : Str} {i : Int} (X : K.In h) (G : h.Ns mainGlobals mg) (c : (He.Fa.int x i).ok K = true) : GlD K mg x (.int i) := by
  obtain ⟨t, e⟩ := He.int_ok X G c
  exact ⟨.int i, .int i t, e, ⟨t, rfl⟩, fun H => .int i⟩
theorem gl_str {x z : Str} (X : K.In h) (G : h.Ns mainGlobals mg) (c : (He.Fa.str x z).ok K = true) : GlD K mg x (.str z) := by
  obtain ⟨t, e⟩ := He.str_ok X G c
  exact ⟨.str z, .str z t, e, ⟨t, rfl⟩, fun H => .str z⟩
end
/-! ### the law's end -/
def isT : Option (Except Exn D) → Bool
  | some (.ok (.bool true)) => true
  | _ => false
theorem isT_ok {o : Option (Except Exn D)} (h : isT o = true) : o = some (.ok (.bool true)) := by
  unfold isT at h
  split at h
  · rfl
  · cases h
def spE (sp : Sp) : Sp := fun vs H Q _ => sp vs H Q fun _ _ _ => False
theorem ok_cx0 {P : Program} {w : World} {K : PySem.W.Frag} {mg : Str → Option Value} {base : Heap} {k : Nat} {f : Addr} {fd : FuncData} {ps : List Str} {sp : Sp} (F : FnOk P w K mg base (L2.CX P w) k f fd ps sp) : FnOk P w K mg base CX0 k f fd ps (spE sp) := by
  refine ⟨fun vs H Q E q => F.len _ _ _ _ q, fun A outer s H args us vs Q E hr he hb hv hs => ?_⟩
  refine codeAny_mono (F.run A outer s H args us vs Q _ hr he hb hv hs) fun r s' h => ?_
  cases r with
  | error e =>
    obtain ⟨_, _, _, _, _, _, _, _, _, _, _, _, z⟩ := (show L2.CX P w outer H s (fun _ _ _ => False) e s' from h)
    exact z.elim
  | ok fl => cases fl <;> exact h
theorem fn_ok0 {P : Program} {w : World} {K : PySem.W.Frag} {mg : Str → Option Value} {base : Heap} {x : Str} {st : Stmt} {fd : FuncData} {N ps : List Str} {k : Nat} {g : Mo Fl} (F : FunD K x x (defArgs st) (defBody st) (defScope st) [] [] (He.ga K x) fd) (S : FnScope N ps (defScope st))
    (hb : ∀ (cdv : Value) (A : Around) (outer : List PySem.Env) (s : Shared) (H : Hp) (E : XK), Room k (A.deeper (PyProof.Rows.envOfC x (defScope st) s.heap.objs.size (He.ga K x) cdv)) → SVs (cxOf (L2.CX P w) P w K mg base N x (defScope st) (He.ga K x) cdv A outer s H E) E (defBody st) g) :
    FnOk P w K mg base (L2.CX P w) (k + 1) (He.ga K x) fd ps (spP K ps.length (guard ps.length (runF N.length g))) := by
  refine F.ok S (fun vs H Q E h => ?_) fun cdv A outer s H vs Q E hr h => ?_
  · obtain ⟨G, ds, _, r, hl, _⟩ := h
    rw [r.length, hl]
  · obtain ⟨t, p, q⟩ := hb cdv A outer s H E hr
    exact ⟨t, p, body_sem q h⟩
theorem rp_ints {K : PySem.W.Frag} {H : Hp} : ∀ ns : List Int, RpAll K H (ns.map V.int) (ns.map PyData.int)
  | [] => .nil
  | n :: ns => .cons (.int n) (rp_ints ns)
/-- the script as a datum -/
def scr (ns : List Int) : D := .dict [(.none, .list (ns.map PyData.int))]
theorem law_sp {K : PySem.W.Frag} {F : Fn} {n : Nat} (hT : ∀ ns : List Int, ns.length ≤ n → isT (F [scr ns]) = true) (H : Hp) (a : Addr) (ns : List Int) (hl : ns.length ≤ n) (hS : SqL K H a (ns.map V.int)) :
    spE (spP K 1 F) [.ref a] H (fun v _ => v = .bl true) fun _ _ _ => False := by
  refine ⟨H, [scr ns], .refl _, .cons (.frz hS (rp_ints ns)) .nil, rfl, ?_⟩
  rw [isT_ok (hT ns hl)]
  intro G' v H' _ r
  cases r
  rfl
end HB
namespace HB
open PySem L2
/-! ### [elt for a in x for b in y], no list of the def's own about -/
def pureSl : Sl → Bool
  | .own _ => false
  | .box _ => false
  | _ => true
def noOwns (ρ : En) : Bool := ρ.all pureSl
theorem noOwns_ok {ρ : En} {σ : St} (h : noOwns ρ = true) (b : Addr) : ¬ Ownd ρ σ b := by
  rintro ⟨i, s, ds, h1, hl, _⟩
  have z := List.all_eq_true.mp h _ (List.mem_of_getElem? h1)
  cases s with
  | no => cases hl
  | pur d => cases hl
  | own _ => cases z
  | box _ => cases z
def tI (K : PySem.W.Frag) (E : XK) (f : Mo Src) (js : List Nat) : TI := fun σ H R => ∃ G ρ, J K G ρ σ H ∧ PostI K E js G ρ σ H R (f ρ)
section
variable {X : Cx} {E : XK}
theorem IV.pi {tg iter : Expr} {f : Mo Src} {js : List Nat} (h : IV X E tg iter f js) : PI X tg iter (tI X.K E f js) := by
  obtain ⟨t, p, q⟩ := h
  exact ⟨fun pins s σ H R I ⟨G, ρ, j, z⟩ => p.run pins s σ H R I (q G ρ σ H R j z)⟩
def in2 (g1 : D → En → Option En) (elt : Mo D) (ρ : En) : List D → Option (List D)
  | [] => some []
  | e :: r => match g1 e ρ with
    | none => none
    | some ρ3 => match noOwns ρ3 with
      | false => none
      | true => match elt ρ3 with
        | some (.ok (_, y)) => (in2 g1 elt ρ r).map (y :: ·)
        | _ => none
def out2 (vs1 : List Nat) (g : D → En → Option En) (src1 : Mo Src) (g1 : D → En → Option En) (elt : Mo D) (ρ : En) : List D → Option (List D)
  | [] => some []
  | d :: r => match g d ρ with
    | none => none
    | some ρ1 => match noOwns ρ1 with
      | false => none
      | true => match src1 ρ1 with
        | some (.ok (ρ2, s)) => match noOwns ρ2 with
          | false => none
          | true => match s [] with
            | none => none
            | some items => match in2 g1 elt (wipeE ρ2 vs1) items with
              | none => none
              | some ys => (out2 vs1 g src1 g1 elt ρ r).map (ys ++ ·)
        | _ => none
def mBlk2 (vs vs1 : List Nat) (src : Mo Src) (g : D → En → Option En) (src1 : Mo Src) (g1 : D → En → Option En) (elt : Mo D) : Mo (List D) := mBind src fun s ρ => match noOwns ρ with
  | false => none
  | true => match s [] with
    | none => none
    | some items => match out2 vs1 g src1 g1 elt (wipeE ρ vs) items with
      | none => none
      | some ys => (match Nat.ble ys.length 1000000 with
        | true => some (.ok (ρ, ys))
        | false => none)
/-- as far as it is made -/
def Acc (K : PySem.W.Frag) (G1 H1 : Hp) (Dd : Addr) (H2 : Hp) (dacc : List D) : Prop := ∃ G2 vacc, PX G1 H1 G2 H2 ∧ G2 Dd = none ∧ H2 Dd = some (.lst vacc) ∧ RpAll K G2 vacc dacc
theorem acc_g {G H G' H' : Hp} {Dd : Addr} {o : HO} (h1 : G Dd = none) (h2 : H Dd = some o) (p : PX G H G' H') : G' Dd = none ∧ H' Dd = some o := by
  refine ⟨?_, p.h _ _ h2⟩
  cases q : G' Dd with
  | none => rfl
  | some o' =>
    rcases p.new Dd (by rw [q]; simp) with z | z
    · exact absurd h1 z
    · rw [h2] at z; cases z
theorem acc_app {K : PySem.W.Frag} {G1 H1 G H : Hp} {Dd : Addr} {vacc : List V} {dacc : List D} {y : V} {d : D} (hD : H1 Dd = none) (p : PX G1 H1 G H) (h1 : G Dd = none) (h2 : H Dd = some (.lst vacc)) (r : RpAll K G vacc dacc) (ry : Rp K G y d) : PX G1 H1 G (upd H Dd (.lst (vacc ++ [y]))) ∧ RpAll K G (vacc ++ [y]) (dacc ++ [d]) := by
  refine ⟨⟨fun b o q => ?_, p.g, fun b o q => ?_, p.new⟩, r.append (.cons ry .nil)⟩
  · rw [upd_ne (fun e => by subst e; rw [hD] at q; cases q)]
    exact p.h _ _ q
  · rw [upd_ne (fun e => by subst e; rw [h1] at q; cases q)]
    exact p.s _ _ q
theorem J.re {K : PySem.W.Frag} {G H G' H' : Hp} {ρ : En} {σ : St} (j : J K G ρ σ H) (no : ∀ b, ¬ Ownd ρ σ b) (g : Same G G') (s : Same G' H') : J K G' ρ σ H' := by
  refine ⟨s, j.len, fun i d h => ?_, fun i s0 ds h hl => ?_, j.dis⟩
  · obtain ⟨v, h1, h2⟩ := j.pur i d h
    exact ⟨v, h1, h2.mono g⟩
  · obtain ⟨a, vs, h1, _⟩ := j.own i s0 ds h hl
    exact absurd ⟨i, s0, ds, h, hl, h1⟩ (no a)
theorem drop_cons {α : Type} {l : List α} {i : Nat} {a : α} (h : l[i]? = some a) : l.drop i = a :: l.drop (i + 1) := by
  have ⟨lt, is⟩ := List.getElem?_eq_some_iff.mp h
  exact (List.drop_eq_getElem_cons lt).trans (by rw [is])
theorem wipe_sets {σ σ4 : St} {vs ws : List Nat} (s4 : Sets ws (wipe σ vs) σ4) (hws : ∀ k ∈ ws, k ∈ vs) : wipe σ4 vs = wipe σ vs := by
  have s5 : Sets vs (wipe σ vs) σ4 := ⟨s4.1, fun k hk => s4.2 k fun z => hk (hws k z)⟩
  rw [wipe_ext s5]
  exact wipe_ext ⟨wipe_length σ vs, fun k hk => wipe_out hk⟩
theorem lc2_sem {wi : TI} {src src1 : Mo Src} {vs vs1 ws ws1 : List Nat} {g g1 : D → En → Option En} {elt : Mo D}
    (qi : ∀ G ρ σ H R, J X.K G ρ σ H → PostI X.K E [] G ρ σ H R (src ρ) → wi σ H R) (hcs : ∀ ρ ρ' s, src ρ = some (.ok (ρ', s)) → Const s) (hcs1 : ∀ ρ ρ' s, src1 ρ = some (.ok (ρ', s)) → Const s) (hws : ∀ k ∈ ws, k ∈ vs) (hws1 : ∀ k ∈ ws1, k ∈ vs1) :
    ∀ G ρ σ H Q, J X.K G ρ σ H → PostN X.K E G ρ σ H Q (mBlk2 vs vs1 src g src1 g1 elt ρ) → tLc2 wi (tG X.K g ws) (tT X.K E0 (mRet true)) (tI X.K E0 src1 []) (tG X.K g1 ws1) (tT X.K E0 (mRet true)) (tE X.K E0 elt) vs vs1 σ H Q := by
  intro G ρ σ H Q j h
  refine qi G ρ σ H _ j ?_
  unfold mBlk2 mBind at h
  cases hs : src ρ with
  | none => rw [hs] at h; exact h
  | some r =>
    rw [hs] at h
    cases r with
    | error x => exact h
    | ok pr =>
      obtain ⟨ρ1, s⟩ := pr
      intro G1 H1 Jt e1 hit Dd hD
      have cs := hcs _ _ _ hs
      simp only at h
      cases hno : noOwns ρ1 with
      | false => simp only [hno] at h; exact h.elim
      | true =>
        simp only [hno] at h
        cases hi : s [] with
        | none => simp only [hi] at h; exact h.elim
        | some items =>
          simp only [hi] at h
          cases ho : out2 vs1 g src1 g1 elt (wipeE ρ1 vs) items with
          | none => simp only [ho] at h; exact h.elim
          | some ys =>
            simp only [ho] at h
            cases hz : Nat.ble ys.length 1000000 with
            | false => simp only [hz] at h; exact h.elim
            | true =>
              simp only [hz] at h
              have hz' : ys.length ≤ 1000000 := Nat.le_of_ble_eq_true hz
              have hlim : ∀ (dacc : List D) (vacc : List V) (G : Hp) (rest : List D) (z : D), RpAll X.K G vacc dacc → dacc ++ z :: rest = ys → vacc.length < sizeLine := fun dacc vacc G rest z r e => by
                rw [r.length]
                refine Nat.lt_of_lt_of_le ?_ (line_of hz')
                rw [← e, List.length_append, List.length_cons]
                omega
              have j0 := e1.j.wipe vs
              refine ⟨fun i m H2 => m = items.length - i ∧ ∃ dacc rest, Acc X.K G1 H1 Dd H2 dacc ∧ out2 vs1 g src1 g1 elt (wipeE ρ1 vs) (items.drop i) = some rest ∧ dacc ++ rest = ys,
                ⟨items.length, by simp, [], ys, ⟨G1, [], ⟨same_upd hD, .refl _, e1.j.sub.trans (same_upd hD), fun _ z => .inl z⟩, e1.j.sub.free hD, upd_same, .nil⟩, by simpa using ho, rfl⟩, ?_⟩
              rintro i m H2 ⟨rfl, dacc, rest, ⟨G2, vacc, p2, hG2, hH2, racc⟩, hout, hys⟩
              have j2 : J X.K G2 (wipeE ρ1 vs) (wipe σ vs) H2 := j0.px p2
              obtain ⟨hgo, hstop⟩ := hit i G2 (wipeE ρ1 vs) (wipe σ vs) H2 items p2.g j2 (fun _ z => nomatch z) ((cs _).trans hi)
              cases hitem : items[i]? with
              | none =>
                have hle : items.length ≤ i := List.getElem?_eq_none_iff.mp hitem
                rw [List.drop_eq_nil_of_le hle] at hout
                cases hout
                rw [List.append_nil] at hys
                subst hys
                refine .inl ⟨hstop hle, ?_⟩
                exact h G2 (.ref Dd) H2 (e1.trans (e1.j.ex p2)) ⟨Dd, vacc, rfl, e1.dom _ hD, hG2, hH2, noOwns_ok hno Dd, racc⟩
              | some d =>
                obtain ⟨go, yld⟩ := hgo d hitem
                have hlt : i < items.length := (List.getElem?_eq_some_iff.mp hitem).1
                rw [drop_cons hitem] at hout
                unfold out2 at hout
                refine .inr ⟨go, fun H6 => ∃ dacc' rest', Acc X.K G1 H1 Dd H6 dacc' ∧ out2 vs1 g src1 g1 elt (wipeE ρ1 vs) (items.drop (i + 1)) = some rest' ∧ dacc' ++ rest' = ys,
                  fun H6 ⟨da, re, k1, k2, k3⟩ => ⟨items.length - (i + 1), by omega, rfl, da, re, k1, k2, k3⟩, fun x H3 y => ?_⟩
                obtain ⟨G3, px3, rx⟩ := yld x H3 y
                have j3 := j2.px px3
                cases eg : g d (wipeE ρ1 vs) with
                | none => simp only [eg] at hout; cases hout
                | some ρa =>
                  simp only [eg] at hout
                  cases hna : noOwns ρa with
                  | false => simp only [hna] at hout; cases hout
                  | true =>
                    simp only [hna] at hout
                    refine ⟨G3, wipeE ρ1 vs, d, ρa, j3, rx, eg, fun σ4 x4 s4 => ⟨?_, G3, ρa, x4.j, ?_⟩⟩
                    · rw [wipe_sets s4 hws]
                    · intro G5 b' H5 x5 hb
                      subst hb
                      have p5 : PX G3 H3 G5 H5 := x5.px (noOwns_ok hna)
                      rw [if_pos rfl]
                      cases es : src1 ρa with
                      | none => simp only [es] at hout; cases hout
                      | some r1 =>
                        cases r1 with
                        | error x => simp only [es] at hout; cases hout
                        | ok pr1 =>
                          obtain ⟨ρb, s1⟩ := pr1
                          simp only [es] at hout
                          have cs1 := hcs1 _ _ _ es
                          cases hnb : noOwns ρb with
                          | false => simp only [hnb] at hout; cases hout
                          | true =>
                            simp only [hnb] at hout
                            cases hi1 : s1 [] with
                            | none => simp only [hi1] at hout; cases hout
                            | some items1 =>
                              simp only [hi1] at hout
                              cases h2 : in2 g1 elt (wipeE ρb vs1) items1 with
                              | none => simp only [h2] at hout; cases hout
                              | some ys1 =>
                                simp only [h2] at hout
                                cases h3 : out2 vs1 g src1 g1 elt (wipeE ρ1 vs) (items.drop (i + 1)) with
                                | none => rw [h3] at hout; cases hout
                                | some rest3 =>
                                  rw [h3] at hout
                                  cases hout
                                  refine ⟨G5, ρa, x5.j, ?_⟩
                                  rw [es]
                                  intro G6 H6 Jt1 e6 hit1
                                  have p6 : PX G5 H5 G6 H6 := e6.px (noOwns_ok hna)
                                  have p26 : PX G2 H2 G6 H6 := px3.trans (p5.trans p6)
                                  have jb := e6.j.wipe vs1
                                  refine ⟨fun j k Hh => k = items1.length - j ∧ ∃ da re1 G7 va, Same G6 G7 ∧ PX G1 H1 G7 Hh ∧ G7 Dd = none ∧ Hh Dd = some (.lst va) ∧ RpAll X.K G7 va da ∧ in2 g1 elt (wipeE ρb vs1) (items1.drop j) = some re1 ∧ da ++ (re1 ++ rest3) = ys,
                                    ⟨items1.length, by simp, dacc, ys1, G6, vacc, .refl _, p2.trans p26, (acc_g hG2 hH2 p26).1, (acc_g hG2 hH2 p26).2, racc.mono p26.g, by simpa using h2, by simpa using hys⟩, ?_⟩
                                  rintro jj kk Hh ⟨rfl, da, re1, G7, va, p67, p17, hG7, hH7, ra7, hin, hy7⟩
                                  have j7 : J X.K G7 (wipeE ρb vs1) (wipe σ4 vs1) Hh := jb.re (fun b z => noOwns_ok hnb b (wipe_ownd z)) p67 p17.s
                                  obtain ⟨hgo1, hstop1⟩ := hit1 jj G7 (wipeE ρb vs1) (wipe σ4 vs1) Hh items1 p67 j7 (fun _ z => nomatch z) ((cs1 _).trans hi1)
                                  cases hit2 : items1[jj]? with
                                  | none =>
                                    have hle : items1.length ≤ jj := List.getElem?_eq_none_iff.mp hit2
                                    rw [List.drop_eq_nil_of_le hle] at hin
                                    cases hin
                                    exact .inl ⟨hstop1 hle, da, rest3, ⟨G7, va, p17, hG7, hH7, ra7⟩, rfl, by simpa using hy7⟩
                                  | some d1 =>
                                    obtain ⟨go1, yld1⟩ := hgo1 d1 hit2
                                    have hlt1 : jj < items1.length := (List.getElem?_eq_some_iff.mp hit2).1
                                    rw [drop_cons hit2] at hin
                                    unfold in2 at hin
                                    refine .inr ⟨go1, fun Hn => ∃ da re1 G7 va, Same G6 G7 ∧ PX G1 H1 G7 Hn ∧ G7 Dd = none ∧ Hn Dd = some (.lst va) ∧ RpAll X.K G7 va da ∧ in2 g1 elt (wipeE ρb vs1) (items1.drop (jj + 1)) = some re1 ∧ da ++ (re1 ++ rest3) = ys,
                                      fun Hn ⟨da, re, G9, va, q1, q2, q3, q4, q5, q6, q7⟩ => ⟨items1.length - (jj + 1), by omega, rfl, da, re, G9, va, q1, q2, q3, q4, q5, q6, q7⟩, fun x1 H8 y1 => ?_⟩
                                    obtain ⟨G8, px8, rx1⟩ := yld1 x1 H8 y1
                                    have j8 := j7.px px8
                                    cases eg1 : g1 d1 (wipeE ρb vs1) with
                                    | none => simp only [eg1] at hin; cases hin
                                    | some ρc =>
                                      simp only [eg1] at hin
                                      cases hnc : noOwns ρc with
                                      | false => simp only [hnc] at hin; cases hin
                                      | true =>
                                        simp only [hnc] at hin
                                        refine ⟨G8, wipeE ρb vs1, d1, ρc, j8, rx1, eg1, fun σ9 x9 s9 => ⟨wipe_sets s9 hws1, G8, ρc, x9.j, ?_⟩⟩
                                        intro G10 b' H10 x10 hb
                                        subst hb
                                        have p10 : PX G8 H8 G10 H10 := x10.px (noOwns_ok hnc)
                                        rw [if_pos rfl]
                                        refine ⟨G10, ρc, x10.j, ?_⟩
                                        cases ee : elt ρc with
                                        | none => simp only [ee] at hin; cases hin
                                        | some re =>
                                          cases re with
                                          | error x => simp only [ee] at hin; cases hin
                                          | ok pe =>
                                            obtain ⟨ρd, yd⟩ := pe
                                            simp only [ee] at hin
                                            cases h5 : in2 g1 elt (wipeE ρb vs1) (items1.drop (jj + 1)) with
                                            | none => rw [h5] at hin; cases hin
                                            | some re5 =>
                                              rw [h5] at hin
                                              cases hin
                                              intro G11 yv H11 x11 ry
                                              have p11 : PX G10 H10 G11 H11 := x11.px (noOwns_ok hnc)
                                              have p7 : PX G7 Hh G11 H11 := px8.trans (p10.trans p11)
                                              obtain ⟨a1, a2⟩ := acc_g hG7 hH7 p7
                                              have r11 := ra7.mono p7.g
                                              refine ⟨va, a2, hlim da va G7 (re5 ++ rest3) yd ra7 (by simpa using hy7), ?_⟩
                                              have pa := p17.trans p7
                                              obtain ⟨h1, h2⟩ := acc_app hD pa a1 a2 r11 ry
                                              refine ⟨da ++ [yd], re5, G11, va ++ [yv], p67.trans p7.g, h1, a1, upd_same, r11.append (.cons ry .nil), rfl, by simpa using hy7⟩
/-- as a new list; as a name's -/
theorem en_lc2 {elt tg iter tg1 iter1 : Expr} {scope : Scope} {own : List (Str × Nat)} {vs1 ws ws1 : List Nat} {pos : Pos} {src src1 : Mo Src} {g g1 : D → En → Option En} {fe : Mo D} (hi : IV X E tg iter src []) (hcs : ∀ ρ ρ' s, src ρ = some (.ok (ρ', s)) → Const s) (ok : BlkOk X.N X.env.scope scope own)
    (hg : ∀ (s : Shared) (H : Hp) (C : Addr) (cl : List (Str × Addr)) (fp : List Addr), GV (X.blk s H scope (compEnvC scope cl C X.env) fp) tg g ws) (hi1 : ∀ (s : Shared) (H : Hp) (C : Addr) (cl : List (Str × Addr)) (fp : List Addr), IV (X.blk s H scope (compEnvC scope cl C X.env) fp) E0 tg1 iter1 src1 []) (hcs1 : ∀ ρ ρ' s, src1 ρ = some (.ok (ρ', s)) → Const s)
    (hg1 : ∀ (s : Shared) (H : Hp) (C : Addr) (cl : List (Str × Addr)) (fp : List Addr), GV (X.blk s H scope (compEnvC scope cl C X.env) fp) tg1 g1 ws1) (he : ∀ (s : Shared) (H : Hp) (C : Addr) (cl : List (Str × Addr)) (fp : List Addr), EV (X.blk s H scope (compEnvC scope cl C X.env) fp) E0 elt fe)
    (hc : X.calm = true) (hN : X.N.Nodup) (hws : ∀ k ∈ ws, k ∈ own.map (·.2) := by decide) (hws1 : ∀ k ∈ ws1, k ∈ vs1 := by decide) (hv : ∀ i ∈ vs1, i ∈ own.map (·.2) := by decide) (hs : ∀ x, foldedSetIterable iter X.env x = pure x := by intro _; rfl) (hs1 : ∀ env x, foldedSetIterable iter1 env x = pure x := by intro _ _; rfl) :
    EN X E (.ListComp elt [⟨tg, iter, [], 0⟩, ⟨tg1, iter1, [], 0⟩] scope pos) (mBlk2 (own.map (·.2)) vs1 src g src1 g1 fe) := by
  obtain ⟨wi, pi, qi⟩ := hi
  exact ⟨_, pe_lc2 (tt := tT X.K E0 (mRet true)) (tt1 := tT X.K E0 (mRet true)) hc hN pi ok hv (fun s H C cl fp => (hg s H C cl fp).pg) (fun s H C cl fp => (show EIf (X.blk s H scope (compEnvC scope cl C X.env) fp) E0 [] (mRet true) from eif_nil)) (fun s H C cl fp => (hi1 s H C cl fp).pi) (fun s H C cl fp => (hg1 s H C cl fp).pg) (fun s H C cl fp => (show EIf (X.blk s H scope (compEnvC scope cl C X.env) fp) E0 [] (mRet true) from eif_nil)) (fun s H C cl fp => (he s H C cl fp).pe) hs hs1, lc2_sem qi hcs hcs1 hws hws1⟩
theorem s_setLc2 {elt tg iter tg1 iter1 : Expr} {scope : Scope} {own : List (Str × Nat)} {vs1 ws ws1 : List Nat} {pos spos : Pos} {i : Nat} {y : Str} {py : Pos} {src src1 : Mo Src} {g g1 : D → En → Option En} {fe : Mo D} (hi : IV X E tg iter src []) (hcs : ∀ ρ ρ' s, src ρ = some (.ok (ρ', s)) → Const s) (ok : BlkOk X.N X.env.scope scope own)
    (hg : ∀ (s : Shared) (H : Hp) (C : Addr) (cl : List (Str × Addr)) (fp : List Addr), GV (X.blk s H scope (compEnvC scope cl C X.env) fp) tg g ws) (hi1 : ∀ (s : Shared) (H : Hp) (C : Addr) (cl : List (Str × Addr)) (fp : List Addr), IV (X.blk s H scope (compEnvC scope cl C X.env) fp) E0 tg1 iter1 src1 []) (hcs1 : ∀ ρ ρ' s, src1 ρ = some (.ok (ρ', s)) → Const s)
    (hg1 : ∀ (s : Shared) (H : Hp) (C : Addr) (cl : List (Str × Addr)) (fp : List Addr), GV (X.blk s H scope (compEnvC scope cl C X.env) fp) tg1 g1 ws1) (he : ∀ (s : Shared) (H : Hp) (C : Addr) (cl : List (Str × Addr)) (fp : List Addr), EV (X.blk s H scope (compEnvC scope cl C X.env) fp) E0 elt fe)
    (hc : X.calm = true) (hN : X.N.Nodup) (hsw : swapsWith (.ListComp elt [⟨tg, iter, [], 0⟩, ⟨tg1, iter1, [], 0⟩] scope pos) (some (.Name y py)) spos.line X.env = pure true) (hy : X.N[i]? = some y := by rfl) (hyl : X.env.scope.names.lookup y = some .local := by rfl)
    (hws : ∀ k ∈ ws, k ∈ own.map (·.2) := by decide) (hws1 : ∀ k ∈ ws1, k ∈ vs1 := by decide) (hv : ∀ i ∈ vs1, i ∈ own.map (·.2) := by decide) (hs : ∀ x, foldedSetIterable iter X.env x = pure x := by intro _; rfl) (hs1 : ∀ env x, foldedSetIterable iter1 env x = pure x := by intro _ _; rfl) :
    SV X E (.Assign [.Name y py] (.ListComp elt [⟨tg, iter, [], 0⟩, ⟨tg1, iter1, [], 0⟩] scope pos) spos) (sSet i (mList (mBlk2 (own.map (·.2)) vs1 src g src1 g1 fe))) := by
  obtain ⟨wi, pi, qi⟩ := hi
  refine ⟨_, ps_setLc2 (tt := tT X.K E0 (mRet true)) (tt1 := tT X.K E0 (mRet true)) hc hN hy hyl hsw pi ok hv (fun s H C cl fp => (hg s H C cl fp).pg) (fun s H C cl fp => (show EIf (X.blk s H scope (compEnvC scope cl C X.env) fp) E0 [] (mRet true) from eif_nil)) (fun s H C cl fp => (hi1 s H C cl fp).pi) (fun s H C cl fp => (hg1 s H C cl fp).pg) (fun s H C cl fp => (show EIf (X.blk s H scope (compEnvC scope cl C X.env) fp) E0 [] (mRet true) from eif_nil)) (fun s H C cl fp => (he s H C cl fp).pe) hs hs1, fun G ρ σ H De j h => lc2_sem qi hcs hcs1 hws hws1 G ρ σ H _ j ?_⟩
  unfold sSet mList mBind at h
  cases hh : mBlk2 (own.map (·.2)) vs1 src g src1 g1 fe ρ with
  | none => simp only [hh] at h; exact h
  | some r =>
    cases r with
    | error x => simp only [hh] at h; exact h
    | ok pr =>
      obtain ⟨ρ', ds⟩ := pr
      simp only [hh] at h
      intro G' v H' e r
      obtain ⟨a, us, rfl, z1, z2, z3, no, z4⟩ := r
      have e2 := e.still z1 z2 z3 no
      exact h _ _ H' (e2.trans (Ex.set e2.j i (.lst upd_same (z4.mono (same_upd z2)))))
end
end HB
namespace HB
open PySem L2
/-! ### the same defs by plain reckoning -/
def gCP : Mo Fl := sSeq (sPar2 0 1 (xConsP (mBuilt absD (mCons (mVar 0) (mNil))) (xConsP (mBuilt absD (mCons (mVar 1) (mNil))) (xNil))))
  (sSeq (sWhile (fuelInt 1) (mTest (mOp (cmpD gtI) (mVar 1) (mRet (.int 0)))) (sPar2 0 1 (xConsP (mVar 1) (xConsP (mOp modD (mVar 0) (mVar 1)) (xNil)))))
  (sRet (mVar 0)))
theorem cp_loop : ∀ (m n k : Nat), m < k → whileL (mTest (mOp (cmpD gtI) (mVar 1) (mRet (.int 0)))) (sPar2 0 1 (xConsP (mVar 1) (xConsP (mOp modD (mVar 0) (mVar 1)) (xNil)))) k [.pur (.int n), .pur (.int m)] = some (.ok ([.pur (.int (Nat.gcd n m : Nat)), .pur (.int 0)], .nx)) := by
  refine fun m => Nat.strongRecOn m fun m ih => ?_
  · intro n k hk
    cases k with
    | zero => omega
    | succ k =>
      cases m with
      | zero => simp [whileL, mTest, mOp, mVar, mRet, mBind, mLift, cmpD, gtI, boolD]
      | succ m =>
        have h1 : gtI ((m + 1 : Nat) : Int) 0 = true := by unfold gtI; exact decide_eq_true (by omega)
        have h2 : (0 : Int) < ((m + 1 : Nat) : Int) := by omega
        have e : whileL (mTest (mOp (cmpD gtI) (mVar 1) (mRet (.int 0)))) (sPar2 0 1 (xConsP (mVar 1) (xConsP (mOp modD (mVar 0) (mVar 1)) (xNil)))) (k + 1) [.pur (.int n), .pur (.int ((m + 1 : Nat) : Int))] =
            whileL (mTest (mOp (cmpD gtI) (mVar 1) (mRet (.int 0)))) (sPar2 0 1 (xConsP (mVar 1) (xConsP (mOp modD (mVar 0) (mVar 1)) (xNil)))) k [.pur (.int ((m + 1 : Nat) : Int)), .pur (.int ((n % (m + 1) : Nat) : Int))] := by
          simp only [whileL, mTest, mOp, mVar, mRet, mBind, mLift, cmpD, boolD, List.getElem?_cons_succ, List.getElem?_cons_zero, h1, sPar2, xConsP, xNil, modD, h2, if_true, slOf, List.set]
          rfl
        rw [e, ih (n % (m + 1)) (Nat.mod_lt _ (Nat.succ_pos m)) (m + 1) k (Nat.lt_of_lt_of_le (Nat.mod_lt n (Nat.succ_pos m)) (by omega))]
        rw [Nat.gcd_comm (m + 1), ← Nat.gcd_rec (m + 1) n, Nat.gcd_comm]
def M_common_part : Fn
  | [.int a, .int b] => some (.ok (.int (Nat.gcd a.natAbs b.natAbs : Nat)))
  | _ => none
theorem absI (i : Int) : (if i < 0 then -i else i) = (i.natAbs : Int) := by
  split <;> omega
theorem cp_run (a b : Int) : runF 2 gCP [.int a, .int b] = some (.ok (.int (Nat.gcd a.natAbs b.natAbs : Nat))) := by
  have e : gCP [.pur (.int a), .pur (.int b)] = sSeq (sWhile (fuelInt 1) (mTest (mOp (cmpD gtI) (mVar 1) (mRet (.int 0)))) (sPar2 0 1 (xConsP (mVar 1) (xConsP (mOp modD (mVar 0) (mVar 1)) (xNil))))) (sRet (mVar 0)) [.pur (.int (a.natAbs : Int)), .pur (.int (b.natAbs : Int))] := by
    rw [← absI a, ← absI b]
    rfl
  have e2 : gCP [.pur (.int a), .pur (.int b)] = some (.ok ([.pur (.int (Nat.gcd a.natAbs b.natAbs : Nat)), .pur (.int 0)], .rt (.int (Nat.gcd a.natAbs b.natAbs : Nat)))) := by
    rw [e]
    unfold sSeq mBind sWhile
    have ef : fuelInt 1 [.pur (.int (a.natAbs : Int)), .pur (.int (b.natAbs : Int))] = b.natAbs + 1 := rfl
    rw [ef, cp_loop b.natAbs a.natAbs (b.natAbs + 1) (Nat.lt_succ_self _)]
    rfl
  show (match gCP [.pur (.int a), .pur (.int b)] with
    | none => none
    | some (.error x) => some (.error x)
    | some (.ok (_, .nx)) => some (.ok .none)
    | some (.ok (_, .rt d)) => some (.ok d)
    | some (.ok (_, _)) => none : Option (Except Exn D)) = _
  rw [e2]
theorem mir_common_part (ds : List D) (r : Except Exn D) (h : M_common_part ds = some r) : guard 2 (runF 2 gCP) ds = some r := by
  unfold M_common_part at h
  split at h
  · rw [← h]
    exact cp_run _ _
  · cases h
def gIL : Mo Fl := sSeq (sSet 2 (mCall M_common_part (mCons (mVar 0) (mCons (mVar 1) (mNil)))))
  (sRet (mIf (mTest (mOp (cmpD gtI) (mVar 1) (mRet (.int 0)))) (mTup (mCons (mOp fdivD (mVar 0) (mVar 2)) (mCons (mOp fdivD (mVar 1) (mVar 2)) (mNil)))) (mTup (mCons (mOp fdivD (mUn negD (mVar 0)) (mVar 2)) (mCons (mOp fdivD (mUn negD (mVar 1)) (mVar 2)) (mNil))))))
/-- in lowest terms -/
def lowD (t b : Int) : Option (Except Exn D) := match Nat.blt 0 (Nat.gcd t.natAbs b.natAbs) && Nat.blt (Nat.gcd t.natAbs b.natAbs).log2 9000 with
  | false => none
  | true => match gtI b 0 with
    | true => some (.ok (.tuple [.int (t / (Nat.gcd t.natAbs b.natAbs : Nat)), .int (b / (Nat.gcd t.natAbs b.natAbs : Nat))]))
    | false => some (.ok (.tuple [.int (-t / (Nat.gcd t.natAbs b.natAbs : Nat)), .int (-b / (Nat.gcd t.natAbs b.natAbs : Nat))]))
def M_in_lowest : Fn
  | [.int t, .int b] => lowD t b
  | _ => none
theorem fdiv_nat {i : Int} {g : Nat} (h1 : 0 < g) (h2 : g.log2 < 9000) : fdivD (.int i) (.int (g : Int)) = some (.int (i / (g : Int))) := by
  unfold fdivD
  simp only
  rw [if_pos ⟨by omega, by rw [Int.natAbs_natCast]; exact h2⟩]
theorem mir_in_lowest (ds : List D) (r : Except Exn D) (h : M_in_lowest ds = some r) : guard 2 (runF 3 gIL) ds = some r := by
  unfold M_in_lowest at h
  split at h
  · rename_i t b
    unfold lowD at h
    cases hc : Nat.blt 0 (Nat.gcd t.natAbs b.natAbs) && Nat.blt (Nat.gcd t.natAbs b.natAbs).log2 9000 with
    | false => rw [hc] at h; cases h
    | true =>
      rw [hc] at h
      obtain ⟨c1, c2⟩ := Bool.and_eq_true_iff.mp hc
      have g1 : 0 < Nat.gcd t.natAbs b.natAbs := Nat.le_of_ble_eq_true c1
      have g2 : (Nat.gcd t.natAbs b.natAbs).log2 < 9000 := Nat.le_of_ble_eq_true c2
      have f1 : ∀ i : Int, fdivD (.int i) (.int (Nat.gcd t.natAbs b.natAbs : Nat)) = some (.int (i / (Nat.gcd t.natAbs b.natAbs : Nat))) := fun i => fdiv_nat g1 g2
      have e0 : guard 2 (runF 3 gIL) [.int t, .int b] = runF 3 gIL [.int t, .int b] := rfl
      rw [e0, ← h]
      cases hb : gtI b 0 with
      | true => simp [runF, gIL, sSeq, sSet, setSl, mBind, mCall, mCons, mNil, mVar, mRet, M_common_part, sRet, mIf, mTest, mOp, mUn, negD, mLift, cmpD, boolD, hb, f1, mTup, sizeOk]
      | false => simp [runF, gIL, sSeq, sSet, setSl, mBind, mCall, mCons, mNil, mVar, mRet, M_common_part, sRet, mIf, mTest, mOp, mUn, negD, mLift, cmpD, boolD, hb, f1, mTup, sizeOk]
  · cases h
/-! ### sums and the like -/
def gAdd : Mo Fl := sRet (mCall M_in_lowest (mCons (mOp addD (mOp mulD (mOp ixD (mVar 0) (mRet (.int 0))) (mOp ixD (mVar 1) (mRet (.int 1)))) (mOp mulD (mOp ixD (mVar 1) (mRet (.int 0))) (mOp ixD (mVar 0) (mRet (.int 1))))) (mCons (mOp mulD (mOp ixD (mVar 0) (mRet (.int 1))) (mOp ixD (mVar 1) (mRet (.int 1)))) (mNil))))
def gLess : Mo Fl := sRet (mCall M_in_lowest (mCons (mOp subD (mOp mulD (mOp ixD (mVar 0) (mRet (.int 0))) (mOp ixD (mVar 1) (mRet (.int 1)))) (mOp mulD (mOp ixD (mVar 1) (mRet (.int 0))) (mOp ixD (mVar 0) (mRet (.int 1))))) (mCons (mOp mulD (mOp ixD (mVar 0) (mRet (.int 1))) (mOp ixD (mVar 1) (mRet (.int 1)))) (mNil))))
def gMul : Mo Fl := sRet (mCall M_in_lowest (mCons (mOp mulD (mOp ixD (mVar 0) (mRet (.int 0))) (mOp ixD (mVar 1) (mRet (.int 0)))) (mCons (mOp mulD (mOp ixD (mVar 0) (mRet (.int 1))) (mOp ixD (mVar 1) (mRet (.int 1)))) (mNil))))
def gQuo : Mo Fl := sRet (mCall M_in_lowest (mCons (mOp mulD (mOp ixD (mVar 0) (mRet (.int 0))) (mOp ixD (mVar 1) (mRet (.int 1)))) (mCons (mOp mulD (mOp ixD (mVar 0) (mRet (.int 1))) (mOp ixD (mVar 1) (mRet (.int 0)))) (mNil))))
def gLt : Mo Fl := sRet (mOp (cmpD ltI) (mOp mulD (mOp ixD (mVar 0) (mRet (.int 0))) (mOp ixD (mVar 1) (mRet (.int 1)))) (mOp mulD (mOp ixD (mVar 1) (mRet (.int 0))) (mOp ixD (mVar 0) (mRet (.int 1)))))
def M_added : Fn
  | [.tuple [.int a, .int b], .tuple [.int c, .int d]] => (match mulFit a d && (mulFit c b && mulFit b d) with
    | true => lowD (a * d + c * b) (b * d)
    | false => none)
  | _ => none
def M_less_by : Fn
  | [.tuple [.int a, .int b], .tuple [.int c, .int d]] => (match mulFit a d && (mulFit c b && mulFit b d) with
    | true => lowD (a * d - c * b) (b * d)
    | false => none)
  | _ => none
def M_multiplied : Fn
  | [.tuple [.int a, .int b], .tuple [.int c, .int d]] => (match mulFit a c && mulFit b d with
    | true => lowD (a * c) (b * d)
    | false => none)
  | _ => none
def M_quotient : Fn
  | [.tuple [.int a, .int b], .tuple [.int c, .int d]] => (match mulFit a d && mulFit b c with
    | true => lowD (a * d) (b * c)
    | false => none)
  | _ => none
def M_is_less : Fn
  | [.tuple [.int a, .int b], .tuple [.int c, .int d]] => (match mulFit a d && mulFit c b with
    | true => some (.ok (.bool (ltI (a * d) (c * b))))
    | false => none)
  | _ => none
theorem mul_of {i j : Int} (h : mulFit i j = true) : mulD (.int i) (.int j) = some (.int (i * j)) := by
  unfold mulD
  simp only [h]
theorem ix0 (a b : D) : ixD (.tuple [a, b]) (.int 0) = some a := rfl
theorem ix1 (a b : D) : ixD (.tuple [a, b]) (.int 1) = some b := rfl
theorem low_run (ds : List D) (o : Option (Except Exn D)) (t b : Int) (h : ds = [.int t, .int b]) (e : lowD t b = o) : M_in_lowest ds = o := by
  subst h
  exact e
theorem mir_added (ds : List D) (r : Except Exn D) (h : M_added ds = some r) : guard 2 (runF 2 gAdd) ds = some r := by
  unfold M_added at h
  split at h
  · rename_i a b c d
    cases hc : mulFit a d && (mulFit c b && mulFit b d) with
    | false => rw [hc] at h; cases h
    | true =>
      rw [hc] at h
      obtain ⟨c1, c2⟩ := Bool.and_eq_true_iff.mp hc
      obtain ⟨c2, c3⟩ := Bool.and_eq_true_iff.mp c2
      have h : lowD (a * d + c * b) (b * d) = some r := h
      cases r <;> simp [guard, runF, gAdd, sRet, mCall, mCons, mNil, mOp, mBind, mLift, mVar, mRet, ix0, ix1, mul_of c1, mul_of c2, mul_of c3, addD, M_in_lowest, h]
  · cases h
theorem mir_less_by (ds : List D) (r : Except Exn D) (h : M_less_by ds = some r) : guard 2 (runF 2 gLess) ds = some r := by
  unfold M_less_by at h
  split at h
  · rename_i a b c d
    cases hc : mulFit a d && (mulFit c b && mulFit b d) with
    | false => rw [hc] at h; cases h
    | true =>
      rw [hc] at h
      obtain ⟨c1, c2⟩ := Bool.and_eq_true_iff.mp hc
      obtain ⟨c2, c3⟩ := Bool.and_eq_true_iff.mp c2
      have h : lowD (a * d - c * b) (b * d) = some r := h
      cases r <;> simp [guard, runF, gLess, sRet, mCall, mCons, mNil, mOp, mBind, mLift, mVar, mRet, ix0, ix1, mul_of c1, mul_of c2, mul_of c3, subD, M_in_lowest, h]
  · cases h
theorem mir_multiplied (ds : List D) (r : Except Exn D) (h : M_multiplied ds = some r) : guard 2 (runF 2 gMul) ds = some r := by
  unfold M_multiplied at h
  split at h
  · rename_i a b c d
    cases hc : mulFit a c && mulFit b d with
    | false => rw [hc] at h; cases h
    | true =>
      rw [hc] at h
      obtain ⟨c1, c2⟩ := Bool.and_eq_true_iff.mp hc
      have h : lowD (a * c) (b * d) = some r := h
      cases r <;> simp [guard, runF, gMul, sRet, mCall, mCons, mNil, mOp, mBind, mLift, mVar, mRet, ix0, ix1, mul_of c1, mul_of c2, M_in_lowest, h]
  · cases h
theorem mir_quotient (ds : List D) (r : Except Exn D) (h : M_quotient ds = some r) : guard 2 (runF 2 gQuo) ds = some r := by
  unfold M_quotient at h
  split at h
  · rename_i a b c d
    cases hc : mulFit a d && mulFit b c with
    | false => rw [hc] at h; cases h
    | true =>
      rw [hc] at h
      obtain ⟨c1, c2⟩ := Bool.and_eq_true_iff.mp hc
      have h : lowD (a * d) (b * c) = some r := h
      cases r <;> simp [guard, runF, gQuo, sRet, mCall, mCons, mNil, mOp, mBind, mLift, mVar, mRet, ix0, ix1, mul_of c1, mul_of c2, M_in_lowest, h]
  · cases h
theorem mir_is_less (ds : List D) (r : Except Exn D) (h : M_is_less ds = some r) : guard 2 (runF 2 gLt) ds = some r := by
  unfold M_is_less at h
  split at h
  · rename_i a b c d
    cases hc : mulFit a d && mulFit c b with
    | false => rw [hc] at h; cases h
    | true =>
      rw [hc] at h
      obtain ⟨c1, c2⟩ := Bool.and_eq_true_iff.mp hc
      have h : some (Except.ok (PyData.bool (ltI (a * d) (c * b)))) = some r := h
      rw [← h]
      simp [guard, runF, gLt, sRet, mOp, mBind, mLift, mVar, mRet, ix0, ix1, mul_of c1, mul_of c2, cmpD]
  · cases h
end HB
namespace HB
open PySem L2
/-! ### a def's values at told places, by a table -/
mutual
def eqP : D → D → Bool
  | .none, .none => true
  | .bool a, .bool b => a == b
  | .int a, .int b => decide (a = b)
  | .str a, .str b => decide (a = b)
  | .list a, .list b => eqPs a b
  | .tuple a, .tuple b => eqPs a b
  | .dict a, .dict b => eqPk a b
  | _, _ => false
def eqPs : List D → List D → Bool
  | [], [] => true
  | a :: r, b :: s => eqP a b && eqPs r s
  | _, _ => false
def eqPk : List (D × D) → List (D × D) → Bool
  | [], [] => true
  | (a, c) :: r, (b, d) :: s => eqP a b && (eqP c d && eqPk r s)
  | _, _ => false
end
mutual
theorem eqP_ok : ∀ (a b : D), eqP a b = true → a = b
  | .none, b, h => by cases b <;> first | rfl | (simp [eqP] at h)
  | .bool a, b, h => by cases b <;> first | (simp [eqP] at h; rw [h]) | (simp [eqP] at h)
  | .int a, b, h => by cases b <;> first | (simp [eqP] at h; rw [h]) | (simp [eqP] at h)
  | .str a, b, h => by cases b <;> first | (simp [eqP] at h; rw [h]) | (simp [eqP] at h)
  | .list a, b, h => by
    cases b with
    | list b => unfold eqP at h; rw [eqPs_ok a b h]
    | _ => simp [eqP] at h
  | .tuple a, b, h => by
    cases b with
    | tuple b => unfold eqP at h; rw [eqPs_ok a b h]
    | _ => simp [eqP] at h
  | .dict a, b, h => by
    cases b with
    | dict b => unfold eqP at h; rw [eqPk_ok a b h]
    | _ => simp [eqP] at h
theorem eqPs_ok : ∀ (a b : List D), eqPs a b = true → a = b
  | [], b, h => by cases b with
    | nil => rfl
    | cons _ _ => simp [eqPs] at h
  | a :: r, b, h => by cases b with
    | nil => simp [eqPs] at h
    | cons b s =>
      unfold eqPs at h
      obtain ⟨h1, h2⟩ := Bool.and_eq_true_iff.mp h
      rw [eqP_ok a b h1, eqPs_ok r s h2]
theorem eqPk_ok : ∀ (a b : List (D × D)), eqPk a b = true → a = b
  | [], b, h => by cases b with
    | nil => rfl
    | cons _ _ => simp [eqPk] at h
  | (a, c) :: r, b, h => by cases b with
    | nil => simp [eqPk] at h
    | cons b s =>
      obtain ⟨b, d⟩ := b
      unfold eqPk at h
      obtain ⟨h1, h2⟩ := Bool.and_eq_true_iff.mp h
      obtain ⟨h2, h3⟩ := Bool.and_eq_true_iff.mp h2
      rw [eqP_ok a b h1, eqP_ok c d h2, eqPk_ok r s h3]
end
def tabF : List (List D × D) → Fn
  | [], _ => none
  | (a, v) :: t, ds => match eqPs a ds with
    | true => some (.ok v)
    | false => tabF t ds
theorem tab_nil {R : Fn} (ds : List D) (r : Except Exn D) (h : tabF [] ds = some r) : R ds = some r := by cases h
theorem tab_cons {R : Fn} {a : List D} {v : D} {t : List (List D × D)} (h1 : R a = some (.ok v)) (h2 : ∀ ds r, tabF t ds = some r → R ds = some r) (ds : List D) (r : Except Exn D) (h : tabF ((a, v) :: t) ds = some r) : R ds = some r := by
  unfold tabF at h
  cases e : eqPs a ds with
  | false => rw [e] at h; exact h2 ds r h
  | true =>
    rw [e] at h
    rw [← eqPs_ok a ds e, h1]
    exact h
end HB
namespace HB
open PySem L2
/-! ### a list that a callee changes -/
theorem J.putX {K : PySem.W.Frag} {G H G' H' : Hp} {ρ : En} {σ : St} (j : J K G ρ σ H) {i : Nat} {s : Sl} {ds es : List D} {a : Addr} {ws : List V} (h : ρ[i]? = some s) (hl : s.ls = some ds) (ha : σ[i]? = some (some (.ref a))) (g : Same G G') (new : ∀ b, G' b ≠ none → G b ≠ none ∨ H b = none) (sb : Same G' H')
    (kept : ∀ b o, b ≠ a → H b = some o → H' b = some o) (dom : ∀ b, H' b = none → H b = none) (ga : G' a = none) (hw : H' a = some (.lst ws)) (r : RpAll K G' ws es) : Ex K G ρ σ H G' (ρ.set i (s.put es)) σ H' := by
  obtain ⟨a', vs, h1, h2, h3, h4⟩ := j.own i s ds h hl
  rw [ha] at h1
  cases h1
  have od : Ownd ρ σ a := ⟨i, s, ds, h, hl, ha⟩
  have np : ∀ d, s.put es ≠ .pur d := fun d => by
    cases s with
    | no => cases hl
    | pur d => cases hl
    | own _ => intro z; cases z
    | box _ => intro z; cases z
  have c : ∀ (m : Nat) (t : Sl) (us : List D), (ρ.set i (s.put es))[m]? = some t → t.ls = some us → ∃ t' us', ρ[m]? = some t' ∧ t'.ls = some us' := fun m t us hm ht => by
    rcases getElem?_set_cases hm with ⟨z1, _⟩ | ⟨_, z⟩
    · subst z1; exact ⟨s, ds, h, hl⟩
    · exact ⟨t, us, z, ht⟩
  refine ⟨⟨sb, by rw [List.length_set]; exact j.len, fun k d q => ?_, fun k t fs q ht => ?_, fun k l t u fs gs b q1 l1 q2 l2 q3 q4 => ?_⟩, g, fun b hb => (new b hb).elim .inl fun z => .inr (.inl z), fun b o q n => kept b o (fun z => by subst z; exact n od) q, fun b hb => ?_, dom, fun k fs q => ?_⟩
  · rcases getElem?_set_cases q with ⟨_, z⟩ | ⟨_, q'⟩
    · exact absurd z.symm (np d)
    · obtain ⟨v, y1, y2⟩ := j.pur k d q'
      exact ⟨v, y1, y2.mono g⟩
  · rcases getElem?_set_cases q with ⟨z1, z⟩ | ⟨z1, q'⟩
    · subst z
      subst z1
      rw [Sl.put_ls hl] at ht
      cases ht
      exact ⟨a, ws, ha, hw, ga, r⟩
    · obtain ⟨b, us, g1, g2, g3, g4⟩ := j.own k t fs q' ht
      have ne : b ≠ a := fun z => by
        subst z
        exact z1 (j.dis k i t s fs ds b q' ht h hl g1 ha)
      refine ⟨b, us, g1, kept b _ ne g2, ?_, g4.mono g⟩
      cases y : G' b with
      | none => rfl
      | some o =>
        rcases new b (by rw [y]; simp) with w | w
        · exact absurd g3 w
        · rw [g2] at w; cases w
  · obtain ⟨t1, u1, c1, c2⟩ := c k t fs q1 l1
    obtain ⟨t2, u2, c3, c4⟩ := c l u gs q2 l2
    exact j.dis k l t1 t2 u1 u2 b c1 c2 c3 c4 q3 q4
  · obtain ⟨k, t, us, q1, l1, q2⟩ := hb
    obtain ⟨t1, u1, c1, c2⟩ := c k t us q1 l1
    exact .inl ⟨k, t1, u1, c1, c2, q2⟩
  · rcases getElem?_set_cases q with ⟨z1, z⟩ | ⟨z1, q'⟩
    · subst z1
      cases s with
      | no => cases hl
      | pur d => cases hl
      | own _ => cases z
      | box es0 => exact ⟨⟨es0, h⟩, rfl⟩
    · exact ⟨⟨fs, q'⟩, rfl⟩
abbrev FnX := List D → List D → Option (Except Exn (List D × D))
def PostBX (K : PySem.W.Frag) (G H : Hp) (a : Addr) (Q : VK) : Option (Except Exn (List D × D)) → Prop
  | some (.ok (es, d)) => ∀ G' v H' ws, Same G G' → (∀ b, G' b ≠ none → G b ≠ none ∨ H b = none) → Same G' H' → (∀ b o, b ≠ a → H b = some o → H' b = some o) → (∀ b, H' b = none → H b = none) → G' a = none → H' a = some (.lst ws) → RpAll K G' ws es → Rp K G' v d → Q v H'
  | _ => False
def spX (K : PySem.W.Frag) (n : Nat) (F : FnX) : Sp := fun vs H Q _ => ∃ a us us' ds ds' G, vs = .ref a :: us' ∧ H a = some (.lst us) ∧ G a = none ∧ Same G H ∧ RpAll K G us ds ∧ RpAll K G us' ds' ∧ ds'.length = n ∧ PostBX K G H a Q (F ds ds')
structure FnXE (P : Program) (w : World) (K : PySem.W.Frag) (mg : Str → Option Value) (base : Heap) (k : Nat) (x : Str) (n : Nat) (F : FnX) : Prop where
  ex : ∃ fd ps, FnOk P w K mg base (L2.CX P w) k (He.ga K x) fd ps (spX K n F) ∧ Binds K fd ps []
  kp : PySem.W.keepIn K (.ref (He.ga K x)) = true
  gl : mg x = some (.ref (He.ga K x))
  ln : ∀ ds ds', F ds ds' ≠ none → ds'.length = n
def atL (ρ : En) (i : Nat) : Option (Sl × List D) := match ρ[i]? with
  | none => none
  | some s => match s.ls with
    | none => none
    | some ds => some (s, ds)
theorem atL_ok {ρ : En} {i : Nat} {s : Sl} {ds : List D} (h : atL ρ i = some (s, ds)) : ρ[i]? = some s ∧ s.ls = some ds := by
  unfold atL at h
  split at h
  · cases h
  · rename_i s' e
    split at h
    · cases h
    · rename_i ds' e'
      cases h
      exact ⟨e, e'⟩
def mCallX (F : FnX) (i : Nat) (f : Mo (List D)) : Mo D := fun ρ => match atL ρ i with
  | none => none
  | some _ => mBind f (fun as ρ1 => match atL ρ1 i with
    | none => none
    | some (s, ds) => match F ds as with
      | some (.ok (es, d)) => some (.ok (ρ1.set i (s.put es), d))
      | _ => none) ρ
section
variable {X : Cx} {E : XK}
theorem ev_callX {k n : Nat} {x y : Str} {F : FnX} {i : Nat} {p p1 pos : Pos} {es : List Expr} {f : Mo (List D)} (hF : FnXE X.prog X.w X.K X.mg X.base k x n F) (hr : Room k X.A) (hx : Passes (L2.CX X.prog X.w) X E)
    (ha : EA X E es f) (hN : X.N[i]? = some y := by rfl) (hv : Vis X.env.scope y := by first | exact Or.inl rfl | exact Or.inr (Or.inl rfl) | exact Or.inr (Or.inr rfl)) (hd : (y == ("__debug__" : Str)) = false := by decide) (hcd : (y == ("__classdict__" : Str)) = false := by decide)
    (hg : Gl X x := by rfl) (hdb : (x == ("__debug__" : Str)) = false := by decide) (he : starEach (.Name y p1 :: es) X.env = (false, eval (.Name y p1) X.env) :: starEach es X.env := by rfl)
    (hpl : (backTo pos (starEach es X.env)).any (·.1) = false := by rfl) : EV X E (.Call (.Name x p) (.Name y p1 :: es) [] pos) (mCallX F i f) := by
  obtain ⟨⟨fd, ps, h1, h2⟩, kp, gl, hl⟩ := hF
  obtain ⟨t, pt, q⟩ := ha
  refine ⟨_, pe_call h1 hr hg gl kp h2 .nil hx (pa_cons (pe_var hN hv hd hcd) pt he) hdb he hpl, fun G ρ σ H Q j h => ?_⟩
  unfold mCallX at h
  cases h0 : atL ρ i with
  | none => rw [h0] at h; exact h.elim
  | some sd =>
    obtain ⟨s0, ds0⟩ := sd
    rw [h0] at h
    obtain ⟨z1, z2⟩ := atL_ok h0
    obtain ⟨a, vs, y1, y2, y3, y4⟩ := j.own i s0 ds0 z1 z2
    refine ⟨.ref a, y1, q G ρ σ H _ j (Post.imp h fun G1 ρ1 us H1 as e1 r1 k => ?_)⟩
    have k' : Post X.K E (Rp X.K) G1 ρ1 σ H1 Q (match atL ρ1 i with
      | none => none
      | some (s, ds) => match F ds as with
        | some (.ok (es, d)) => some (.ok (ρ1.set i (s.put es), d))
        | _ => none) := k
    show spX X.K n F ((.ref a :: us) ++ []) H1 Q E
    rw [List.append_nil]
    cases h3 : atL ρ1 i with
    | none => rw [h3] at k'; exact k'.elim
    | some sd =>
      obtain ⟨s, ds⟩ := sd
      simp only [h3] at k'
      obtain ⟨w1, w2⟩ := atL_ok h3
      obtain ⟨a2, ws, u1, u2, u3, u4⟩ := e1.j.own i s ds w1 w2
      rw [y1] at u1
      cases u1
      match hf : F ds as, k' with
      | none, k' => simp only [hf] at k'; exact k'.elim
      | some (.error _), k' => simp only [hf] at k'; exact k'.elim
      | some (.ok (es2, d)), k' =>
        simp only [hf] at k'
        refine ⟨a, ws, us, ds, as, G1, rfl, u2, u3, e1.j.sub, u4, r1, hl ds as (by rw [hf]; simp), ?_⟩
        rw [hf]
        intro G' v H' ws' b1 b2 b3 b4 b5 b6 b7 b8 b9
        exact k' G' v H' (e1.j.putX w1 w2 y1 b1 b2 b3 b4 b5 b6 b7 b8) b9
/-- xs[e], xs[e] = e2 of such a list -/
def mIxB (i : Nat) (f : Mo D) : Mo D := fun ρ => match atL ρ i with
  | none => none
  | some _ => mBind f (fun k ρ1 => match atL ρ1 i with
    | some (_, ds) => mLift (ixD (.list ds) k) ρ1
    | none => none) ρ
theorem ev_ixB {i : Nat} {x : Str} {e : Expr} {f : Mo D} {p1 pos : Pos} (h : EV X E e f) (hN : X.N[i]? = some x := by rfl) (hv : Vis X.env.scope x := by first | exact Or.inl rfl | exact Or.inr (Or.inl rfl) | exact Or.inr (Or.inr rfl)) (hd : (x == ("__debug__" : Str)) = false := by decide) (hcd : (x == ("__classdict__" : Str)) = false := by decide)
    (hs : PlainIx e := by exact fun _ _ => rfl) : EV X E (.Subscript (.Name x p1) e pos) (mIxB i f) := by
  obtain ⟨t, p, q⟩ := h
  refine ⟨_, pe_ix ix_seq (pe_var hN hv hd hcd) p hs, fun G ρ σ H Q j h => ?_⟩
  unfold mIxB at h
  cases h0 : atL ρ i with
  | none => rw [h0] at h; exact h.elim
  | some sd =>
    obtain ⟨s0, ds0⟩ := sd
    rw [h0] at h
    obtain ⟨z1, z2⟩ := atL_ok h0
    obtain ⟨a, vs, y1, y2, y3, y4⟩ := j.own i s0 ds0 z1 z2
    refine ⟨.ref a, y1, q G ρ σ H _ j (Post.imp h fun G1 ρ1 y H1 k e1 r1 h5 => ?_)⟩
    have k' : Post X.K E (Rp X.K) G1 ρ1 σ H1 Q (match atL ρ1 i with
      | some (_, ds) => mLift (ixD (.list ds) k) ρ1
      | none => none) := h5
    cases h3 : atL ρ1 i with
    | none => rw [h3] at k'; exact k'.elim
    | some sd =>
      obtain ⟨s, ds⟩ := sd
      simp only [h3] at k'
      obtain ⟨w1, w2⟩ := atL_ok h3
      obtain ⟨a2, ws, u1, u2, u3, u4⟩ := e1.j.own i s ds w1 w2
      rw [y1] at u1
      cases u1
      obtain ⟨c, hc, kk⟩ := Post.lift (ρ' := ρ1) k'
      cases r1 with
      | int n =>
        obtain ⟨v, q1, q2⟩ := u4.atI hc
        exact .inl ⟨_, _, _, _, rfl, rfl, .of u2, q1, kk G1 v H1 e1.j.refl q2⟩
      | _ => cases hc
def sPutB (i : Nat) (fi fe : Mo D) : Mo Fl := mBind fe fun d ρ => match atL ρ i with
  | none => none
  | some _ => mBind fi (fun k ρ1 => match atL ρ1 i with
    | none => none
    | some (s, ds) => match intOf k with
      | some n => match ixN ds.length n with
        | some m => some (.ok (ρ1.set i (s.put (ds.set m d)), .nx))
        | none => none
      | none => none) ρ
theorem s_putB {i : Nat} {x : Str} {e ie : Expr} {fi fe : Mo D} {p1 tpos pos : Pos} (h : EV X E e fe) (hi : EV X E ie fi) (hN : X.N[i]? = some x := by rfl) (hv : Vis X.env.scope x := by first | exact Or.inl rfl | exact Or.inr (Or.inl rfl) | exact Or.inr (Or.inr rfl)) (hd : (x == ("__debug__" : Str)) = false := by decide) (hcd : (x == ("__classdict__" : Str)) = false := by decide)
    (hpg : ∀ {to ti : TE} {t : TSet}, PE X (.Name x p1) to → PE X ie ti → PSet X t → PG X (.Subscript (.Name x p1) ie tpos) (gSub to ti t) := by exact fun a b c => pg_sub a b c)
    (hs : swapsWithSole [.Subscript (.Name x p1) ie tpos] e pos.line X.env = pure false := by rfl) (hw : swappedStores [.Subscript (.Name x p1) ie tpos] e X.env = pure none := by rfl)
    (ha : (assignEach [.Subscript (.Name x p1) ie tpos] X.env).map (·.2) = [assign (.Subscript (.Name x p1) ie tpos) X.env] := by rfl) : SV X E (.Assign [.Subscript (.Name x p1) ie tpos] e pos) (sPutB i fi fe) := by
  obtain ⟨t, p, q⟩ := h
  obtain ⟨ti, pi, qi⟩ := hi
  refine ⟨_, ps_asg p (hpg (pe_var hN hv hd hcd) pi set_list) hs hw ha, fun G ρ σ H De j h => q G ρ σ H _ j (PostS.imp h fun G1 ρ1 v H1 d e1 r1 k => ?_)⟩
  have k' : PostS X.K E G1 ρ1 σ H1 De (match atL ρ1 i with
    | none => none
    | some _ => mBind fi (fun k ρ1 => match atL ρ1 i with
      | none => none
      | some (s, ds) => match intOf k with
        | some n => match ixN ds.length n with
          | some m => some (.ok (ρ1.set i (s.put (ds.set m d)), .nx))
          | none => none
        | none => none) ρ1) := k
  cases h0 : atL ρ1 i with
  | none => rw [h0] at k'; exact k'.elim
  | some sd =>
    obtain ⟨s0, ds0⟩ := sd
    rw [h0] at k'
    obtain ⟨z1, z2⟩ := atL_ok h0
    obtain ⟨a, vs, y1, y2, y3, y4⟩ := e1.j.own i s0 ds0 z1 z2
    refine ⟨.ref a, y1, qi G1 ρ1 σ H1 _ e1.j (PostS.imp k' fun G2 ρ2 iv H2 kd e2 r2 k2 => ?_)⟩
    have k2' : PostS X.K E G2 ρ2 σ H2 De (match atL ρ2 i with
      | none => none
      | some (s, ds) => match intOf kd with
        | some n => match ixN ds.length n with
          | some m => some (.ok (ρ2.set i (s.put (ds.set m d)), .nx))
          | none => none
        | none => none) := k2
    cases h3 : atL ρ2 i with
    | none => rw [h3] at k2'; exact k2'.elim
    | some sd =>
      obtain ⟨s, ds⟩ := sd
      simp only [h3] at k2'
      obtain ⟨w1, w2⟩ := atL_ok h3
      obtain ⟨a2, ws, u1, u2, u3, u4⟩ := e2.j.own i s ds w1 w2
      rw [y1] at u1
      cases u1
      cases r2 with
      | int n =>
        simp only [intOf] at k2'
        cases hx : ixN ds.length n with
        | none => simp only [hx] at k2'; exact k2'.elim
        | some m =>
          simp only [hx] at k2'
          exact ⟨a, ws, n, m, rfl, rfl, u2, by rw [u4.length]; exact hx, k2' G2 σ _ (e2.j.putS w1 w2 y1 (RpAll.set (r1.mono e2.g) m u4))⟩
      | _ => exact k2'.elim
end
/-! ### the def that changes it -/
theorem J.consB {K : PySem.W.Frag} {G H : Hp} {ρ : En} {σ : St} {a : Addr} {us : List V} {ds : List D} (j : J K G ρ σ H) (no : ∀ b, ¬ Ownd ρ σ b) (h1 : H a = some (.lst us)) (h2 : G a = none) (r : RpAll K G us ds) : J K G (.box ds :: ρ) (some (.ref a) :: σ) H := by
  refine ⟨j.sub, congrArg (· + 1) j.len, fun i d h => ?_, fun i s es h hl => ?_, fun i k s t es fs b e1 l1 e2 l2 e3 e4 => ?_⟩
  · cases i with
    | zero => cases h
    | succ i => exact j.pur i d h
  · cases i with
    | zero => cases h; cases hl; exact ⟨a, us, rfl, h1, h2, r⟩
    | succ i => exact j.own i s es h hl
  · cases i with
    | zero => cases k with
      | zero => rfl
      | succ k => exact absurd ⟨k, t, fs, e2, l2, e4⟩ (no b)
    | succ i => exact absurd ⟨i, s, es, e1, l1, e3⟩ (no b)
def box0 : En → Option (List D)
  | .box es :: _ => some es
  | _ => none
theorem box0_ok {ρ : En} {es : List D} (h : box0 ρ = some es) : ρ[0]? = some (.box es) := by
  unfold box0 at h
  split at h
  · cases h; rfl
  · cases h
def runX (n : Nat) (g : Mo Fl) : FnX := fun ds as => match g (.box ds :: (as.map Sl.pur ++ List.replicate (n - as.length) Sl.no)) with
  | some (.ok (ρ', .rt d)) => (match box0 ρ' with
    | some es => some (.ok (es, d))
    | none => none)
  | some (.ok (ρ', .nx)) => (match box0 ρ' with
    | some es => some (.ok (es, .none))
    | none => none)
  | _ => none
def guardX (n : Nat) (F : FnX) : FnX := fun ds as => match Nat.beq as.length n with
  | true => F ds as
  | false => none
theorem bodyX {K : PySem.W.Frag} {E : XK} {N : List Str} {x : Str} {g : Mo Fl} {t : TS} {n : Nat} (q : ∀ G ρ σ H De, J K G ρ σ H → PostS K E G ρ σ H De (g ρ) → t De σ H) {vs : List V} {H : Hp} {Q : VK} (h : spX K n (guardX n (runX N.length g)) vs H Q E) :
    t { nx := fun _ H' => Q .non H', rt := Q } (start (x :: N) vs) H := by
  obtain ⟨a, us, us', ds, as, G, rfl, h1, h2, s, r1, r2, hl, k⟩ := h
  rw [start_cons]
  have e0 : guardX n (runX N.length g) ds as = runX N.length g ds as := by
    unfold guardX
    have e : Nat.beq as.length n = true := by rw [hl]; exact Nat.beq_refl _
    rw [e]
  rw [e0] at k
  have no : ∀ b, ¬ Ownd (as.map Sl.pur ++ List.replicate (N.length - as.length) Sl.no) (start N us') b := fun b => start_no
  have j0 := (start_j (N := N) s r2).consB no h1 h2 r1
  have own1 : ∀ b, Ownd (.box ds :: (as.map Sl.pur ++ List.replicate (N.length - as.length) Sl.no)) (some (.ref a) :: start N us') b → b = a := fun b z => by
    obtain ⟨i, s, es, z1, z2, z3⟩ := z
    cases i with
    | zero => cases z3; rfl
    | succ i => exact absurd ⟨i, s, es, z1, z2, z3⟩ (no b)
  have fin : ∀ (ρ' : En) (es : List D) (d : D) (G' : Hp) (σ' : St) (v : V) (H' : Hp), ρ'[0]? = some (.box es) → Ex K G (.box ds :: (as.map Sl.pur ++ List.replicate (N.length - as.length) Sl.no)) (some (.ref a) :: start N us') H G' ρ' σ' H' → Rp K G' v d → PostBX K G H a Q (some (.ok (es, d))) → Q v H' := by
    intro ρ' es d G' σ' v H' hb z rv kk
    obtain ⟨_, w2⟩ := z.bx 0 es hb
    obtain ⟨a2, ws, u1, u2, u3, u4⟩ := z.j.own 0 _ es hb rfl
    rw [w2] at u1
    cases u1
    refine kk G' v H' ws z.g (fun b hb => ?_) z.j.sub (fun b o hb q => z.kept b o q fun y => hb (own1 b y)) z.dom u3 u2 u4 rv
    rcases z.new b hb with y | y | y
    · exact .inl y
    · exact .inr y
    · have e := own1 b y
      subst e
      exact absurd u3 hb
  refine q G _ _ H _ j0 ?_
  unfold runX at k
  match hg : g (.box ds :: (as.map Sl.pur ++ List.replicate (N.length - as.length) Sl.no)), k with
  | none, k => simp only [hg] at k; exact k.elim
  | some (.error y), k => simp only [hg] at k; exact k.elim
  | some (.ok (ρ', .rt d)), k =>
    simp only [hg] at k
    cases hb : box0 ρ' with
    | none => simp only [hb] at k; exact k.elim
    | some es => simp only [hb] at k; exact fun G' σ' v H' z rv => fin ρ' es d G' σ' v H' (box0_ok hb) z rv k
  | some (.ok (ρ', .nx)), k =>
    simp only [hg] at k
    cases hb : box0 ρ' with
    | none => simp only [hb] at k; exact k.elim
    | some es => simp only [hb] at k; exact fun G' σ' H' z => fin ρ' es .none G' σ' .non H' (box0_ok hb) z .non k
  | some (.ok (ρ', .bk)), k => simp only [hg] at k; exact k.elim
  | some (.ok (ρ', .ct)), k => simp only [hg] at k; exact k.elim
theorem fn_okX {P : Program} {w : World} {K : PySem.W.Frag} {mg : Str → Option Value} {base : Heap} {x y : Str} {st : Stmt} {fd : FuncData} {N ps : List Str} {k : Nat} {g : Mo Fl} (F : FunD K x x (defArgs st) (defBody st) (defScope st) [] [] (He.ga K x) fd) (S : FnScope (y :: N) (y :: ps) (defScope st)) (gl : mg x = some (.ref (He.ga K x)))
    (b : ∀ (kV doc pm : Value) (an : Option Addr) (cdv ct : Value) (us : List Value), us.length = (y :: ps).length → bindArgs (PySem.W.fnOf x x (defArgs st) (defBody st) (defScope st) .none kV doc pm an cdv ct) ⟨us, []⟩ = pure ((y :: ps).zip us))
    (hb : ∀ (cdv : Value) (A : Around) (outer : List PySem.Env) (s : Shared) (H : Hp) (E : XK), Room k (A.deeper (PyProof.Rows.envOfC x (defScope st) s.heap.objs.size (He.ga K x) cdv)) → SVs (cxOf (L2.CX P w) P w K mg base (y :: N) x (defScope st) (He.ga K x) cdv A outer s H E) E (defBody st) g) :
    FnXE P w K mg base (k + 1) x ps.length (guardX ps.length (runX N.length g)) := by
  refine ⟨⟨fd, y :: ps, F.ok S (fun vs H Q E h => ?_) fun cdv A outer s H vs Q E hr h => ?_, F.bindsN b⟩, F.kp, gl, fun ds as h => ?_⟩
  · obtain ⟨a, us, us', ds, as, G, rfl, _, _, _, _, r, hl, _⟩ := h
    show us'.length + 1 = ps.length + 1
    rw [r.length, hl]
  · obtain ⟨t, p, q⟩ := hb cdv A outer s H E hr
    exact ⟨t, p, bodyX q h⟩
  · unfold guardX at h
    cases q : Nat.beq as.length ps.length with
    | true => exact Nat.eq_of_beq_eq_true q
    | false => rw [q] at h; exact absurd rfl h
end HB
namespace HB
open PySem L2
/-! ### defs that hand out a new list -/
abbrev FnN := List D → Option (Except Exn (List D))
def PostFN (K : PySem.W.Frag) (G H : Hp) (Q : VK) : Option (Except Exn (List D)) → Prop
  | some (.ok ds) => ∀ G' a vs H', PX G H G' H' → H a = none → G' a = none → H' a = some (.lst vs) → RpAll K G' vs ds → Q (.ref a) H'
  | _ => False
def spN (K : PySem.W.Frag) (n : Nat) (F : FnN) : Sp := fun vs H Q _ => ∃ G ds, Same G H ∧ RpAll K G vs ds ∧ ds.length = n ∧ PostFN K G H Q (F ds)
structure FnNE (P : Program) (w : World) (K : PySem.W.Frag) (mg : Str → Option Value) (base : Heap) (k : Nat) (x : Str) (n : Nat) (F : FnN) : Prop where
  ex : ∃ fd ps, FnOk P w K mg base (L2.CX P w) k (He.ga K x) fd ps (spN K n F) ∧ Binds K fd ps []
  kp : PySem.W.keepIn K (.ref (He.ga K x)) = true
  gl : mg x = some (.ref (He.ga K x))
  ln : ∀ ds, F ds ≠ none → ds.length = n
def mCallN (F : FnN) (a : Mo (List D)) : Mo (List D) := mBind a fun ds ρ => match F ds with
  | some (.ok es) => some (.ok (ρ, es))
  | _ => none
section
variable {X : Cx} {E : XK}
theorem en_call {k n : Nat} {x : Str} {F : FnN} {p pos : Pos} {e : Expr} {es : List Expr} {f : Mo (List D)} (hF : FnNE X.prog X.w X.K X.mg X.base k x n F) (hr : Room k X.A) (hx : Passes (L2.CX X.prog X.w) X E)
    (ha : EA X E (e :: es) f) (hg : Gl X x := by rfl) (hdb : (x == ("__debug__" : Str)) = false := by decide) (he : starEach (e :: es) X.env = (false, eval e X.env) :: starEach es X.env := by rfl)
    (hpl : (backTo pos (starEach es X.env)).any (·.1) = false := by rfl) : EN X E (.Call (.Name x p) (e :: es) [] pos) (mCallN F f) := by
  obtain ⟨⟨fd, ps, h1, h2⟩, kp, gl, hl⟩ := hF
  obtain ⟨t, pt, q⟩ := ha
  refine ⟨_, pe_call h1 hr hg gl kp h2 .nil hx pt hdb he hpl, fun G ρ σ H Q j h => ?_⟩
  refine q G ρ σ H _ j (Post.impN h fun G1 ρ1 vs H1 ds e1 r1 h1 => ?_)
  show spN X.K n F (vs ++ []) H1 Q E
  rw [List.append_nil]
  have h1' : PostN X.K E G1 ρ1 σ H1 Q (match F ds with
    | some (.ok es) => some (.ok (ρ1, es))
    | _ => none) := h1
  match hf : F ds, h1' with
  | none, h1' => simp only [hf] at h1'; exact h1'.elim
  | some (.error _), h1' => simp only [hf] at h1'; exact h1'.elim
  | some (.ok es2), h1' =>
    simp only [hf] at h1'
    refine ⟨G1, ds, e1.j.sub, r1, hl ds (by rw [hf]; simp), ?_⟩
    rw [hf]
    intro G' a ws H' px z1 z2 z3 z4
    exact h1' G' (.ref a) H' (e1.j.ex px) ⟨a, ws, rfl, z1, z2, z3, e1.j.nown z1, z4⟩
/-- a body that ends with: return a new list -/
def PostR (K : PySem.W.Frag) (E : XK) (G : Hp) (ρ : En) (σ : St) (H : Hp) (De : Ends) : Option (Except Exn (En × List D)) → Prop
  | some (.ok (ρ', ds)) => ∀ G' σ' a vs H', Ex K G ρ σ H G' ρ' σ' H' → H a = none → G' a = none → H' a = some (.lst vs) → RpAll K G' vs ds → De.rt (.ref a) H'
  | _ => False
def SVN (X : Cx) (E : XK) (s : List Stmt) (g : Mo (List D)) : Prop := ∃ t, PSs X s t ∧ ∀ G ρ σ H De, J X.K G ρ σ H → PostR X.K E G ρ σ H De (g ρ) → t De σ H
def rRet (f : Mo (List D)) : Mo (List D) := fun ρ => match f ρ with
  | some (.ok r) => some (.ok r)
  | _ => none
theorem svn_ret {e : Expr} {f : Mo (List D)} {pos : Pos} (h : EN X E e f) : SVN X E [.Return (some e) pos] (rRet f) := by
  obtain ⟨t, p, q⟩ := h
  refine ⟨_, pss_one (ps_ret p), fun G ρ σ H De j h => q G ρ σ H _ j ?_⟩
  unfold rRet at h
  match hf : f ρ, h with
  | none, h => exact h.elim
  | some (.error _), h => exact h.elim
  | some (.ok (ρ', ds)), h =>
    intro G' v H' e r
    obtain ⟨a, vs, rfl, z1, z2, z3, no, z4⟩ := r
    exact h G' σ a vs H' e z1 z2 z3 z4
def rSeq (a : Mo Fl) (g : Mo (List D)) : Mo (List D) := fun ρ => match a ρ with
  | some (.ok (ρ1, .nx)) => g ρ1
  | _ => none
theorem svn_cons {s : Stmt} {rest : List Stmt} {a : Mo Fl} {g : Mo (List D)} (h1 : SV X E s a) (h2 : SVN X E rest g) : SVN X E (s :: rest) (rSeq a g) := by
  obtain ⟨t, p, q⟩ := h1
  obtain ⟨t2, p2, q2⟩ := h2
  refine ⟨_, pss_cons p p2, fun G ρ σ H De j h => q G ρ σ H _ j ?_⟩
  unfold rSeq at h
  match ha : a ρ, h with
  | none, h => exact h.elim
  | some (.error _), h => exact h.elim
  | some (.ok (ρ1, .nx)), h =>
    intro G1 σ1 H1 e1
    refine q2 G1 ρ1 σ1 H1 De e1.j ?_
    match hg : g ρ1, h with
    | none, h => simp only [hg] at h; exact h.elim
    | some (.error _), h => simp only [hg] at h; exact h.elim
    | some (.ok (ρ2, ds)), h =>
      simp only [hg] at h
      exact fun G' σ' a vs H' e2 z1 z2 z3 z4 => h G' σ' a vs H' (e1.trans e2) (e1.dom a z1) z2 z3 z4
  | some (.ok (ρ1, .rt _)), h => exact h.elim
  | some (.ok (ρ1, .bk)), h => exact h.elim
  | some (.ok (ρ1, .ct)), h => exact h.elim
end
def runN (n : Nat) (g : Mo (List D)) : FnN := fun ds => match g (ds.map Sl.pur ++ List.replicate (n - ds.length) Sl.no) with
  | some (.ok (_, es)) => some (.ok es)
  | _ => none
def guardN (n : Nat) (F : FnN) : FnN := fun ds => match Nat.beq ds.length n with
  | true => F ds
  | false => none
theorem fn_okN {P : Program} {w : World} {K : PySem.W.Frag} {mg : Str → Option Value} {base : Heap} {x : Str} {st : Stmt} {fd : FuncData} {N ps : List Str} {k : Nat} {g : Mo (List D)} (F : FunD K x x (defArgs st) (defBody st) (defScope st) [] [] (He.ga K x) fd) (S : FnScope N ps (defScope st)) (gl : mg x = some (.ref (He.ga K x)))
    (b : ∀ (kV doc pm : Value) (an : Option Addr) (cdv ct : Value) (us : List Value), us.length = ps.length → bindArgs (PySem.W.fnOf x x (defArgs st) (defBody st) (defScope st) .none kV doc pm an cdv ct) ⟨us, []⟩ = pure (ps.zip us))
    (hb : ∀ (cdv : Value) (A : Around) (outer : List PySem.Env) (s : Shared) (H : Hp) (E : XK), Room k (A.deeper (PyProof.Rows.envOfC x (defScope st) s.heap.objs.size (He.ga K x) cdv)) → SVN (cxOf (L2.CX P w) P w K mg base N x (defScope st) (He.ga K x) cdv A outer s H E) E (defBody st) g) :
    FnNE P w K mg base (k + 1) x ps.length (guardN ps.length (runN N.length g)) := by
  refine ⟨⟨fd, ps, F.ok S (fun vs H Q E h => ?_) fun cdv A outer s H vs Q E hr h => ?_, F.bindsN b⟩, F.kp, gl, fun ds h => ?_⟩
  · obtain ⟨G, ds, _, r, hl, _⟩ := h
    rw [r.length, hl]
  · obtain ⟨t, p, q⟩ := hb cdv A outer s H E hr
    refine ⟨t, p, ?_⟩
    obtain ⟨G, ds, sb, r, hl, k⟩ := h
    have e0 : guardN ps.length (runN N.length g) ds = runN N.length g ds := by
      unfold guardN
      have e : Nat.beq ds.length ps.length = true := by rw [hl]; exact Nat.beq_refl _
      rw [e]
    rw [e0] at k
    refine q G _ _ H _ (start_j sb r) ?_
    have no : ∀ b, ¬ Ownd (ds.map Sl.pur ++ List.replicate (N.length - ds.length) Sl.no) (start N vs) b := fun b => start_no
    unfold runN at k
    match hg : g (ds.map Sl.pur ++ List.replicate (N.length - ds.length) Sl.no), k with
    | none, k => simp only [hg] at k; exact k.elim
    | some (.error _), k => simp only [hg] at k; exact k.elim
    | some (.ok (ρ', es)), k =>
      simp only [hg] at k
      exact fun G' σ' a ws H' z z1 z2 z3 z4 => k G' a ws H' (z.px no) z1 z2 z3 z4
  · unfold guardN at h
    cases q : Nat.beq ds.length ps.length with
    | true => exact Nat.eq_of_beq_eq_true q
    | false => rw [q] at h; exact absurd rfl h
end HB
namespace HB
open PySem L2
/-! ### draws -/
theorem FnXE.by {P : Program} {w : World} {K : PySem.W.Frag} {mg : Str → Option Value} {base : Heap} {k n : Nat} {x : Str} {F F' : FnX} (h : FnXE P w K mg base k x n F) (e : ∀ ds as r, F' ds as = some r → F ds as = some r) : FnXE P w K mg base k x n F' := by
  obtain ⟨⟨fd, ps, h1, h2⟩, kp, gl, hl⟩ := h
  refine ⟨⟨fd, ps, h1.imp fun vs H Q E q => ?_, h2⟩, kp, gl, fun ds as q => ?_⟩
  · obtain ⟨a, us, us', ds, as, G, z1, z2, z3, z4, z5, z6, z7, z8⟩ := q
    refine ⟨a, us, us', ds, as, G, z1, z2, z3, z4, z5, z6, z7, ?_⟩
    cases e1 : F' ds as with
    | none => rw [e1] at z8; exact z8.elim
    | some o => rw [e ds as o e1]; rw [e1] at z8; exact z8
  · cases e1 : F' ds as with
    | none => exact absurd e1 q
    | some o => exact hl ds as (by rw [e ds as o e1]; simp)
def gTake : Mo Fl := sSeq (sIf (mTest (mOp (cmpD gtI) (mIxB 0 (mRet (.int 0))) (mRet (.int 0)))) (sSeq (sSet 4 (mOp modD (mBuilt intD (mCons (mIxB 0 (mRet (.int 0))) (mNil))) (mVar 1)))
  (sSeq (sPutB 0 (mRet (.int 0)) (mOp fdivD (mIxB 0 (mRet (.int 0))) (mVar 1)))
  (sRet (mVar 4)))) (sNext))
  (sSeq (sPutB 0 (mRet (.int 2)) (mOp addD (mIxB 0 (mRet (.int 2))) (mRet (.int 1))))
  (sSeq (sSet 2 (mOp modD (mBuilt intD (mCons (mOp mulD (mOp addD (mIxB 0 (mRet (.int 1))) (mOp mulD (mRet (.int 104729)) (mIxB 0 (mRet (.int 2))))) (mRet (.int 69623))) (mNil))) (mRet (.int 2147483647))))
  (sSeq (sPutB 0 (mRet (.int 1)) (mOp addD (mOp modD (mBuilt intD (mCons (mOp addD (mOp mulD (mVar 2) (mRet (.int 48271))) (mRet (.int 30103))) (mNil))) (mRet (.int 2147483629))) (mRet (.int 1))))
  (sSeq (sIf (mTest (mOp (cmpD ltI) (mVar 1) (mOp powD (mRet (.int 2)) (mRet (.int 40))))) (sRet (mOp modD (mBuilt intD (mCons (mOp fdivD (mOp addD (mOp mulD (mVar 2) (mRet (.int 2147483647))) (mIxB 0 (mRet (.int 1)))) (mRet (.int 8191))) (mNil))) (mVar 1))) (sNext))
  (sSeq (sSet 3 (mOp mulD (mOp addD (mOp mulD (mVar 2) (mRet (.int 2147483647))) (mIxB 0 (mRet (.int 1)))) (mOp powD (mRet (.int 2147483629)) (mRet (.int 3)))))
  (sRet (mOp modD (mBuilt intD (mCons (mOp addD (mOp addD (mVar 3) (mOp mulD (mOp powD (mIxB 0 (mRet (.int 1))) (mRet (.int 3))) (mRet (.int 8191)))) (mVar 2)) (mNil))) (mVar 1))))))))
def rawV (s c : Int) : Int := ((s + 104729 * (c + 1)) * 69623) % 2147483647
def nextV (r : Int) : Int := (r * 48271 + 30103) % 2147483629 + 1
def takeOk (s c : Int) : Bool := mulFit 104729 (c + 1) && (mulFit (s + 104729 * (c + 1)) 69623 && (mulFit (rawV s c) 48271 && mulFit (rawV s c) 2147483647))
def M_law_take : FnX
  | [.int x, .int s, .int c], [.int n] => (match decide (0 < n) && Nat.blt n.natAbs.log2 9000 with
    | false => none
    | true => match gtI x 0 with
      | true => some (.ok ([.int (x / n), .int s, .int c], .int (x % n)))
      | false => match ltI n 1099511627776 && takeOk s c with
        | true => some (.ok ([.int x, .int (nextV (rawV s c)), .int (c + 1)], .int ((rawV s c * 2147483647 + nextV (rawV s c)) / 8191 % n)))
        | false => none)
  | _, _ => none
theorem fdiv_of {i j : Int} (h1 : 0 < j) (h2 : Nat.blt j.natAbs.log2 9000 = true) : fdivD (.int i) (.int j) = some (.int (i / j)) := by
  unfold fdivD
  simp only
  rw [if_pos ⟨h1, Nat.le_of_ble_eq_true h2⟩]
theorem mod_of {i j : Int} (h1 : 0 < j) : modD (.int i) (.int j) = some (.int (i % j)) := by
  unfold modD
  simp only
  rw [if_pos h1]
theorem mir_law_take (ds as : List D) (r : Except Exn (List D × D)) (h : M_law_take ds as = some r) : guardX 1 (runX 4 gTake) ds as = some r := by
  unfold M_law_take at h
  split at h
  · rename_i x s c n
    cases hc : decide (0 < n) && Nat.blt n.natAbs.log2 9000 with
    | false => rw [hc] at h; cases h
    | true =>
      rw [hc] at h
      obtain ⟨c1, c2⟩ := Bool.and_eq_true_iff.mp hc
      have hn : 0 < n := of_decide_eq_true c1
      have fd : ∀ i, fdivD (.int i) (.int n) = some (.int (i / n)) := fun i => fdiv_of hn c2
      have md : ∀ i, modD (.int i) (.int n) = some (.int (i % n)) := fun i => mod_of hn
      have md1 : ∀ i, modD (.int i) (.int 2147483647) = some (.int (i % 2147483647)) := fun i => mod_of (by decide)
      have md2 : ∀ i, modD (.int i) (.int 2147483629) = some (.int (i % 2147483629)) := fun i => mod_of (by decide)
      have fd8 : ∀ i, fdivD (.int i) (.int 8191) = some (.int (i / 8191)) := fun i => fdiv_of (by decide) (by decide)
      have pw : powD (.int 2) (.int 40) = some (.int 1099511627776) := rfl
      have i0 : ∀ a b c : D, ixD (.list [a, b, c]) (.int 0) = some a := fun _ _ _ => rfl
      have i1 : ∀ a b c : D, ixD (.list [a, b, c]) (.int 1) = some b := fun _ _ _ => rfl
      have i2 : ∀ a b c : D, ixD (.list [a, b, c]) (.int 2) = some c := fun _ _ _ => rfl
      have n0 : ixN 3 0 = some 0 := rfl
      have n1 : ixN 3 1 = some 1 := rfl
      have n2 : ixN 3 2 = some 2 := rfl
      cases hx : gtI x 0 with
      | true =>
        simp only [hx] at h
        rw [← h]
        simp [guardX, runX, gTake, sSeq, sIf, sSet, setSl, sRet, sNext, sPutB, mIxB, atL, Sl.ls, Sl.put, intOf, mTest, mOp, mBuilt, intD, mCons, mNil, mBind, mLift, mVar, mRet, cmpD, boolD, hx, i0, n0, fd, md, box0]
      | false =>
        simp only [hx] at h
        cases ht : ltI n 1099511627776 && takeOk s c with
        | false => rw [ht] at h; cases h
        | true =>
          rw [ht] at h
          obtain ⟨t1, t2⟩ := Bool.and_eq_true_iff.mp ht
          unfold takeOk at t2
          obtain ⟨m1, t2⟩ := Bool.and_eq_true_iff.mp t2
          obtain ⟨m2, t2⟩ := Bool.and_eq_true_iff.mp t2
          obtain ⟨m3, m4⟩ := Bool.and_eq_true_iff.mp t2
          have h : some (Except.ok ([PyData.int x, PyData.int (nextV (rawV s c)), PyData.int (c + 1)], PyData.int ((rawV s c * 2147483647 + nextV (rawV s c)) / 8191 % n))) = some r := h
          rw [← h]
          unfold rawV at m3 m4
          simp [guardX, runX, gTake, sSeq, sIf, sSet, setSl, sRet, sNext, sPutB, mIxB, atL, Sl.ls, Sl.put, intOf, mTest, mOp, mBuilt, intD, mCons, mNil, mBind, mLift, mVar, mRet, cmpD, boolD, hx, i0, i1, i2, n0, n1, n2, fd, md, md1, md2, fd8, pw, addD, mul_of m1, mul_of m2, mul_of m3, mul_of m4, t1, box0, rawV, nextV]
  · cases h
end HB
namespace HB
open PySem L2
/-! ### the box of a script -/
theorem log_small {n : Nat} (h : n < 2 ^ 200) : n.log2 < 200 := by
  by_cases e : n = 0
  · subst e; decide
  · exact (Nat.log2_lt e).mpr h
theorem fit_of {i j : Int} (hi : i.natAbs < 2 ^ 200) (hj : j.natAbs < 2 ^ 200) : mulFit i j = true := by
  unfold mulFit
  have h1 := log_small hi
  have h2 := log_small hj
  exact Nat.ble_eq_true_of_le (by omega)
def gBox3 : Mo (List D) := rSeq (sSet 4 (mOp addD (mOp modD (mBuilt intD (mCons (mOp addD (mOp mulD (mOp modD (mBuilt intD (mCons (mVar 3) (mNil))) (mRet (.int 2147483629))) (mRet (.int 48271))) (mOp mulD (mRet (.int 40692)) (mOp addD (mVar 1) (mOp mulD (mRet (.int 11)) (mVar 2))))) (mNil))) (mRet (.int 2147483629))) (mRet (.int 1))))
  (rRet (mSized (mCons (mOp ixD (mList (mSized (mCons (mRet (.int 0)) (mCons (mVar 3) (mNil))))) (mBuilt intD (mCons (mOp (cmpD geI) (mVar 3) (mOp powD (mRet (.int 10)) (mRet (.int 18)))) (mNil)))) (mCons (mVar 4) (mCons (mRet (.int 0)) (mNil))))))
def gBox : Mo (List D) := rSeq (sSet 3 (mOp addD (mOp addD (mOp mulD (mRet (.int 7727)) (mVar 1)) (mOp mulD (mRet (.int 104729)) (mVar 2))) (mRet (.int 43))))
  (rSeq (sIf (mTest (mOp (cmpD ltI) (mVar 1) (mBuilt lenD (mCons (mVar 0) (mNil))))) (sSet 3 (mBuilt absD (mCons (mOp ixD (mVar 0) (mVar 1)) (mNil)))) (sIf (mTest (mOp (cmpD gtI) (mBuilt lenD (mCons (mVar 0) (mNil))) (mRet (.int 0)))) (sSet 3 (mOp addD (mVar 3) (mOp mulD (mOp modD (mBuilt intD (mCons (mBuilt absD (mCons (mOp ixD (mVar 0) (mOp modD (mBuilt intD (mCons (mVar 1) (mNil))) (mBuilt lenD (mCons (mVar 0) (mNil))))) (mNil))) (mNil))) (mRet (.int 2147483629))) (mRet (.int 69623))))) (sNext)))
  gBox3)
/-- the cell that a box begins with -/
def cellV (ns : List Int) (k o : Int) : Int := if k < ns.length then ((ns.getD k.toNat 0).natAbs : Int) else if 0 < (ns.length : Int) then 7727 * k + 104729 * o + 43 + ((ns.getD (k % ns.length).toNat 0).natAbs : Int) % 2147483629 * 69623 else 7727 * k + 104729 * o + 43
def seedV (cell k o : Int) : Int := (cell % 2147483629 * 48271 + 40692 * (k + 11 * o)) % 2147483629 + 1
theorem scr_len (ns : List Int) : lenD [scr ns] = some (.int ns.length) := by
  simp [scr, lenD]
theorem scr_ix (ns : List Int) (k : Int) (h0 : 0 ≤ k) (h1 : k < ns.length) : ixD (scr ns) (.int k) = some (.int (ns.getD k.toNat 0)) := by
  have hk : k.toNat < ns.length := by have := h0; have := h1; omega
  have e : L2.atI (ns.map PyData.int) k = some (.int (ns.getD k.toNat 0)) := by
    have e1 : ixN (ns.map PyData.int).length k = some k.toNat := by
      unfold ixN
      rw [if_pos h0, List.length_map, if_pos h1]
    unfold L2.atI
    rw [e1]
    simp [hk, List.getD_eq_getElem?_getD]
  exact e
theorem box3 (d : D) (k o cell : Int) (hk : 0 ≤ k) (hk2 : k < 1000000) (ho : 0 ≤ o) (ho2 : o < 1000000) : ∃ ρ, gBox3 [.pur d, .pur (.int k), .pur (.int o), .pur (.int cell), .no] = some (.ok (ρ, [.int (if 1000000000000000000 ≤ cell then cell else 0), .int (seedV cell k o), .int 0])) := by
  have f3 : mulFit 11 o = true := fit_of (by decide) (by omega)
  have f4 : mulFit 40692 (k + 11 * o) = true := fit_of (by decide) (by omega)
  have f5 : mulFit (cell % 2147483629) 48271 = true := fit_of (by omega) (by decide)
  have md2 : ∀ i, modD (.int i) (.int 2147483629) = some (.int (i % 2147483629)) := fun i => mod_of (by decide)
  have pw : powD (.int 10) (.int 18) = some (.int 1000000000000000000) := rfl
  have j0 : ∀ a b : D, ixD (.list [a, b]) (.int 0) = some a := fun _ _ => rfl
  have j1 : ∀ a b : D, ixD (.list [a, b]) (.int 1) = some b := fun _ _ => rfl
  by_cases h2 : 1000000000000000000 ≤ cell
  · have c2 : geI cell 1000000000000000000 = true := decide_eq_true h2
    rw [if_pos h2]
    exact ⟨_, by simp [gBox3, rSeq, rRet, sSet, setSl, mOp, mBuilt, mSized, sizeOk, mList, intD, mCons, mNil, mBind, mLift, mVar, mRet, cmpD, c2, addD, mul_of f3, mul_of f4, mul_of f5, md2, pw, j0, j1, seedV]; rfl⟩
  · have c2 : geI cell 1000000000000000000 = false := decide_eq_false h2
    rw [if_neg h2]
    exact ⟨_, by simp [gBox3, rSeq, rRet, sSet, setSl, mOp, mBuilt, mSized, sizeOk, mList, intD, mCons, mNil, mBind, mLift, mVar, mRet, cmpD, c2, addD, mul_of f3, mul_of f4, mul_of f5, md2, pw, j0, j1, seedV]; rfl⟩
theorem gBox_cell (ns : List Int) (k o : Int) (hk : 0 ≤ k) (hk2 : k < 1000000) (ho : 0 ≤ o) (ho2 : o < 1000000) : ∃ cell : Int, 0 ≤ cell ∧ gBox [.pur (scr ns), .pur (.int k), .pur (.int o), .no, .no] = gBox3 [.pur (scr ns), .pur (.int k), .pur (.int o), .pur (.int cell), .no] := by
  have f1 : mulFit 7727 k = true := fit_of (by decide) (by omega)
  have f2 : mulFit 104729 o = true := fit_of (by decide) (by omega)
  have md2 : ∀ i, modD (.int i) (.int 2147483629) = some (.int (i % 2147483629)) := fun i => mod_of (by decide)
  by_cases h1 : k < ns.length
  · have c1 : ltI k ns.length = true := decide_eq_true h1
    have hx := scr_ix ns k hk h1
    generalize ns.getD k.toNat 0 = v at hx
    refine ⟨(v.natAbs : Int), by omega, ?_⟩
    simp [gBox, rSeq, sIf, sSet, setSl, mTest, mOp, mBuilt, intD, absD, mCons, mNil, mBind, mLift, mVar, mRet, cmpD, boolD, scr_len, hx, c1, addD, mul_of f1, mul_of f2, absI]
  · have c1 : ltI k ns.length = false := decide_eq_false h1
    by_cases h2 : (0 : Int) < ns.length
    · have c2 : gtI ns.length 0 = true := decide_eq_true h2
      have hm := mod_of (i := k) (j := ns.length) h2
      have hx := scr_ix ns (k % ns.length) (Int.emod_nonneg _ (by omega)) (Int.emod_lt_of_pos _ h2)
      generalize ns.getD (k % ns.length).toNat 0 = v at hx
      have f6 : mulFit ((v.natAbs : Int) % 2147483629) 69623 = true := fit_of (by omega) (by decide)
      refine ⟨7727 * k + 104729 * o + 43 + (v.natAbs : Int) % 2147483629 * 69623, by omega, ?_⟩
      simp [gBox, rSeq, sIf, sSet, setSl, mTest, mOp, mBuilt, intD, absD, mCons, mNil, mBind, mLift, mVar, mRet, cmpD, boolD, scr_len, hx, hm, c1, c2, addD, mul_of f1, mul_of f2, mul_of f6, md2, absI]
    · have c2 : gtI ns.length 0 = false := decide_eq_false h2
      refine ⟨7727 * k + 104729 * o + 43, by omega, ?_⟩
      simp [gBox, rSeq, sIf, sSet, setSl, sNext, mTest, mOp, mBuilt, intD, absD, mCons, mNil, mBind, mLift, mVar, mRet, cmpD, boolD, scr_len, c1, c2, addD, mul_of f1, mul_of f2]
theorem box_run (ns : List Int) (k o : Int) (hk : 0 ≤ k) (hk2 : k < 1000000) (ho : 0 ≤ o) (ho2 : o < 1000000) : ∃ x s : Int, guardN 3 (runN 5 gBox) [scr ns, .int k, .int o] = some (.ok [.int x, .int s, .int 0]) ∧ 0 ≤ x ∧ 0 < s ∧ s ≤ 2147483629 := by
  obtain ⟨cell, h0, h1⟩ := gBox_cell ns k o hk hk2 ho ho2
  obtain ⟨ρ, h2⟩ := box3 (scr ns) k o cell hk hk2 ho ho2
  refine ⟨if 1000000000000000000 ≤ cell then cell else 0, seedV cell k o, ?_, ?_, ?_, ?_⟩
  · show (match gBox [.pur (scr ns), .pur (.int k), .pur (.int o), .no, .no] with
      | some (.ok (_, es)) => some (.ok es)
      | _ => none : Option (Except Exn (List D))) = _
    rw [h1, h2]
  · split <;> omega
  · unfold seedV
    omega
  · unfold seedV
    omega
end HB
namespace HB
open PySem L2
/-! ### draws: what they may be -/
def Bx (b : List D) (m : Int) : Prop := ∃ x s c : Int, b = [.int x, .int s, .int c] ∧ 0 ≤ x ∧ 0 < s ∧ s ≤ 2147483629 ∧ 0 ≤ c ∧ c ≤ m
theorem Bx.mono {b : List D} {m m' : Int} (h : Bx b m) (e : m ≤ m') : Bx b m' := by
  obtain ⟨x, s, c, h1, h2, h3, h4, h5, h6⟩ := h
  exact ⟨x, s, c, h1, h2, h3, h4, h5, by omega⟩
theorem box_bx (ns : List Int) (k o : Int) (hk : 0 ≤ k) (hk2 : k < 1000000) (ho : 0 ≤ o) (ho2 : o < 1000000) : ∃ b, guardN 3 (runN 5 gBox) [scr ns, .int k, .int o] = some (.ok b) ∧ Bx b 0 := by
  obtain ⟨x, s, h1, h2, h3, h4⟩ := box_run ns k o hk hk2 ho ho2
  exact ⟨_, h1, x, s, 0, rfl, h2, h3, h4, by omega, by omega⟩
theorem take_run {b : List D} {m n : Int} (hb : Bx b m) (hm : m < 1000000000000) (h0 : 0 < n) (hn : n < 1099511627776) : ∃ b' r, M_law_take b [.int n] = some (.ok (b', .int r)) ∧ Bx b' (m + 1) ∧ 0 ≤ r ∧ r < n := by
  obtain ⟨x, s, c, rfl, h2, h3, h4, h5, h6⟩ := hb
  have hl : Nat.blt n.natAbs.log2 9000 = true := by
    have : n.natAbs.log2 < 200 := log_small (by omega)
    exact Nat.ble_eq_true_of_le (by omega)
  have hg : (decide (0 < n) && Nat.blt n.natAbs.log2 9000) = true := by rw [hl, decide_eq_true h0]; rfl
  unfold M_law_take
  simp only [hg]
  cases hx : gtI x 0 with
  | true => exact ⟨_, _, rfl, ⟨x / n, s, c, rfl, Int.ediv_nonneg h2 (by omega), h3, h4, h5, by omega⟩, Int.emod_nonneg _ (by omega), Int.emod_lt_of_pos _ h0⟩
  | false =>
    have ht : (ltI n 1099511627776 && takeOk s c) = true := by
      have e1 : ltI n 1099511627776 = true := decide_eq_true hn
      have e2 : takeOk s c = true := by
        unfold takeOk
        rw [fit_of (i := 104729) (j := c + 1) (by decide) (by omega), fit_of (i := s + 104729 * (c + 1)) (j := 69623) (by omega) (by decide), fit_of (i := rawV s c) (j := 48271) (by unfold rawV; omega) (by decide), fit_of (i := rawV s c) (j := 2147483647) (by unfold rawV; omega) (by decide)]
        rfl
      rw [e1, e2]
      rfl
    simp only [ht]
    exact ⟨_, _, rfl, ⟨x, nextV (rawV s c), c + 1, rfl, h2, by unfold nextV; omega, by unfold nextV; omega, by omega, by omega⟩, Int.emod_nonneg _ (by omega), Int.emod_lt_of_pos _ h0⟩
def gPick : Mo Fl := sRet (mOp ixD (mVar 1) (mCallX M_law_take 0 (mCons (mBuilt lenD (mCons (mVar 1) (mNil))) (mNil))))
theorem pick_run {b : List D} {m : Int} {items : List D} (hb : Bx b m) (hm : m < 1000000000000) (h0 : 0 < items.length) (hn : items.length < 1000000) : ∃ b' d, guardX 1 (runX 1 gPick) b [.list items] = some (.ok (b', d)) ∧ Bx b' (m + 1) ∧ d ∈ items := by
  obtain ⟨b', r, h1, h2, h3, h4⟩ := take_run (n := items.length) hb hm (by omega) (by omega)
  have hr : r.toNat < items.length := by omega
  have e : ixD (.list items) (.int r) = some items[r.toNat] := by
    have e1 : ixN items.length r = some r.toNat := by
      unfold ixN
      rw [if_pos h3, if_pos h4]
    have e2 : L2.atI items r = some items[r.toNat] := by
      unfold L2.atI
      rw [e1]
      simp [hr]
    exact e2
  refine ⟨b', items[r.toNat], ?_, h2, List.getElem_mem hr⟩
  simp [guardX, runX, gPick, sRet, mOp, mBind, mLift, mVar, mCallX, atL, Sl.ls, Sl.put, mCons, mNil, mBuilt, lenD, mRet, h1, e, box0]
end HB
namespace HB
open PySem L2
/-! ### reckoning statement by statement -/
theorem seq_nx {a b : Mo Fl} {ρ ρ1 : En} (h : a ρ = some (.ok (ρ1, .nx))) : sSeq a b ρ = b ρ1 := by
  unfold sSeq mBind
  rw [h]
theorem own_box {i : Nat} {F : FnN} {args : Mo (List D)} {ρ : En} {as b : List D} (ha : args ρ = some (.ok (ρ, as))) (hF : F as = some (.ok b)) : sOwn i (mCallN F args) ρ = some (.ok (ρ.set i (.own b), .nx)) := by
  unfold sOwn mCallN mBind
  rw [ha]
  simp only [hF]
  rfl
theorem callX_ok {F : FnX} {i : Nat} {f : Mo (List D)} {ρ ρ1 : En} {s0 s : Sl} {ds0 ds as es : List D} {d : D} (h0 : atL ρ i = some (s0, ds0)) (hf : f ρ = some (.ok (ρ1, as))) (h1 : atL ρ1 i = some (s, ds)) (hF : F ds as = some (.ok (es, d))) : mCallX F i f ρ = some (.ok (ρ1.set i (s.put es), d)) := by
  unfold mCallX mBind
  simp only [h0, hf, h1, hF]
theorem cons_ok {a : Mo D} {r : Mo (List D)} {ρ ρ1 ρ2 : En} {x : D} {xs : List D} (h1 : a ρ = some (.ok (ρ1, x))) (h2 : r ρ1 = some (.ok (ρ2, xs))) : mCons a r ρ = some (.ok (ρ2, x :: xs)) := by
  unfold mCons mBind
  simp only [h1, h2, mRet]
theorem tup_ok {f : Mo (List D)} {ρ ρ1 : En} {ds : List D} (h : f ρ = some (.ok (ρ1, ds))) (hs : sizeOk ds = true) : mTup f ρ = some (.ok (ρ1, .tuple ds)) := by
  unfold mTup mBind
  simp only [h, mLift, hs, if_true]
theorem asg_ok {g : D → En → Option En} {f : Mo D} {ρ ρ1 ρ2 : En} {d : D} (h : f ρ = some (.ok (ρ1, d))) (hg : g d ρ1 = some ρ2) : sAsg g f ρ = some (.ok (ρ2, .nx)) := by
  unfold sAsg mBind
  simp only [h, hg]
end HB
namespace HB
open PySem L2
section
variable {X : Cx} {E : XK}
/-! ### a def as a value -/
def fnD (x : Str) : D := .dict [(.none, .str x)]
theorem ev_fn {x : Str} {pos : Pos} (gl : X.mg x = some (.ref (He.ga X.K x))) (hg : Gl X x := by rfl) (hd : (x == ("__debug__" : Str)) = false := by decide) : EV X E (.Name x pos) (mRet (fnD x)) :=
  ⟨_, pe_glob (v := .ref (He.ga X.K x)) hg gl rfl hd, fun G ρ σ H Q j h => h G _ H j.refl (.fn x)⟩
def lookF (x : Str) : List (Str × Nat × Fn) → Option (Nat × Fn)
  | [] => none
  | (y, F) :: r => if y = x then some F else lookF x r
def mCallV (i : Nat) (tab : List (Str × Nat × Fn)) (a : Mo (List D)) : Mo D := fun ρ => match ρ[i]? with
  | some (.pur (.dict [(.none, .str x)])) => (match lookF x tab with
    | some F => mCall F.2 a ρ
    | none => none)
  | _ => none
def TabE (P : Program) (w : World) (K : PySem.W.Frag) (mg : Str → Option Value) (base : Heap) (k : Nat) (tab : List (Str × Nat × Fn)) : Prop := ∀ x n F, lookF x tab = some (n, F) → ∃ j ps, j ≤ k ∧ ps.length = n ∧ FnE P w K mg base j x ps F
theorem tabE_nil {P : Program} {w : World} {K : PySem.W.Frag} {mg : Str → Option Value} {base : Heap} {k : Nat} : TabE P w K mg base k [] := fun x n F h => by cases h
theorem tabE_cons {P : Program} {w : World} {K : PySem.W.Frag} {mg : Str → Option Value} {base : Heap} {k j n : Nat} {x : Str} {ps : List Str} {F : Fn} {tab : List (Str × Nat × Fn)} (h : FnE P w K mg base j x ps F) (t : TabE P w K mg base k tab) (hj : j ≤ k := by decide) (hn : ps.length = n := by rfl) : TabE P w K mg base k ((x, n, F) :: tab) := fun y m F' e => by
  have e' : (if x = y then some (n, F) else lookF y tab) = some (m, F') := e
  split at e'
  · rename_i q
    cases e'
    subst q
    exact ⟨j, ps, hj, hn, h⟩
  · exact t y m F' e'
theorem ev_callV {i k : Nat} {x : Str} {tab : List (Str × Nat × Fn)} {p pos : Pos} {e : Expr} {es : List Expr} {f : Mo (List D)} (hT : TabE X.prog X.w X.K X.mg X.base k tab) (hr : Room k X.A) (hx : Passes (L2.CX X.prog X.w) X E)
    (ha : EA X E (e :: es) f) (hN : X.N[i]? = some x := by rfl) (hv : Vis X.env.scope x := by first | exact Or.inl rfl | exact Or.inr (Or.inl rfl) | exact Or.inr (Or.inr rfl)) (hdb : (x == ("__debug__" : Str)) = false := by decide) (hcd : (x == ("__classdict__" : Str)) = false := by decide)
    (he : starEach (e :: es) X.env = (false, eval e X.env) :: starEach es X.env := by rfl) (hpl : (backTo pos (starEach es X.env)).any (·.1) = false := by rfl) : EV X E (.Call (.Name x p) (e :: es) [] pos) (mCallV i tab f) := by
  obtain ⟨t, pt, q⟩ := ha
  refine ⟨fun σ H Q => ∃ y n F, lookF y tab = some (n, F) ∧ tCallL i (He.ga X.K y) (spP X.K n F) [] E t σ H Q, ⟨fun pins s σ H Q I h => ?_⟩, fun G ρ σ H Q j h => ?_⟩
  · obtain ⟨y, n, F, hl, h⟩ := h
    obtain ⟨j, ps, hj, rfl, ⟨⟨fd, h1, h2⟩, kp, gl, hln⟩⟩ := hT y n F hl
    exact (pe_callL h1 (hr.mono hj) hN hv kp h2 .nil hx pt hdb hcd he hpl).run pins s σ H Q I h
  · unfold mCallV at h
    split at h
    · rename_i y hq
      cases hl : lookF y tab with
      | none => rw [hl] at h; exact h.elim
      | some nF =>
        obtain ⟨n, F⟩ := nF
        rw [hl] at h
        obtain ⟨v, h1, h2⟩ := j.pur i _ hq
        obtain ⟨_, ps, _, rfl, ⟨_, _, _, hln⟩⟩ := hT y n F hl
        cases h2 with
        | fn _ => exact ⟨y, _, F, hl, h1, call_sem q hln G ρ σ H Q j h⟩
    · exact h.elim
/-! ### methods -/
structure MeE (P : Program) (w : World) (K : PySem.W.Frag) (mg : Str → Option Value) (base : Heap) (k : Nat) (c m : Str) (n : Nat) (F : Fn) : Prop where
  cls : Cls K (He.ga K c)
  me : Meth K (He.ga K c) m (He.ma K (He.ga K c) m)
  ex : ∃ fd ps, FnOk P w K mg base (L2.CX P w) k (He.ma K (He.ga K c) m) fd ps (spP K n F) ∧ Binds K fd ps []
  ln : ∀ ds, F ds ≠ none → ds.length = n
def noKey (f : Str) : List (D × D) → Bool
  | [] => true
  | (.str g, _) :: r => if g = f then false else noKey f r
  | _ :: _ => false
theorem RpF.noLook {K : PySem.W.Frag} {G : Hp} {f : Str} : ∀ {fs : List (Str × V)} {kvs : List (D × D)}, RpF K G fs kvs → noKey f kvs = true → fs.lookup f = none
  | _, _, .nil, _ => rfl
  | _, _, @RpF.cons _ _ g v fs e kvs _ t, q => by
    have q' : (if g = f then false else noKey f kvs) = true := q
    by_cases z : g = f
    · rw [if_pos z] at q'; cases q'
    · rw [if_neg z] at q'
      have e1 : (f == g) = false := beq_eq_false_iff_ne.mpr (Ne.symm z)
      simp only [List.lookup, e1]
      exact t.noLook q'
/-- an object of the class, and the method is not hidden by a field -/
def isObj (c m : Str) : D → Bool
  | .dict ((.str c', .none) :: kvs) => if c' = c then noKey m kvs else false
  | _ => false
theorem Rp.isObj {K : PySem.W.Frag} {G : Hp} {v : V} {d : D} {c m : Str} (r : Rp K G v d) (h : HB.isObj c m d = true) : ∃ a dx fs, v = .ref a ∧ G a = some (.ins (He.ga K c) dx fs) ∧ fs.lookup m = none := by
  cases r with
  | @obj a dx c' fs kvs h1 h2 =>
    have h' : (if c' = c then noKey m kvs else false) = true := h
    split at h'
    · rename_i e
      subst e
      exact ⟨a, dx, fs, rfl, h1, h2.noLook h'⟩
    · cases h'
  | frz h1 h2 => cases h
  | fn _ => cases h
  | adr _ => cases h
  | _ => cases h
def mMeth (c m : Str) (F : Fn) (o : Mo D) (a : Mo (List D)) : Mo D := mBind o fun d => match isObj c m d with
  | true => mBind a fun ds ρ => match F (d :: ds) with
    | none => none
    | some (.error x) => some (.error x)
    | some (.ok r) => some (.ok (ρ, r))
  | false => fun _ => none
theorem meth_sem {c m : Str} {F : Fn} {n : Nat} {ta : TE} {t : TA} {fo : Mo D} {f : Mo (List D)} (qo : ∀ G ρ σ H Q, J X.K G ρ σ H → Post X.K E (Rp X.K) G ρ σ H Q (fo ρ) → ta σ H Q)
    (q : ∀ G ρ σ H Q, J X.K G ρ σ H → Post X.K E (RpAll X.K) G ρ σ H Q (f ρ) → t σ H Q) (hl : ∀ ds, F ds ≠ none → ds.length = n) :
    ∀ G ρ σ H Q, J X.K G ρ σ H → Post X.K E (Rp X.K) G ρ σ H Q (mMeth c m F fo f ρ) → tMeth (He.ga X.K c) m (spP X.K n F) [] E ta t σ H Q := by
  intro G ρ σ H Q j h
  refine qo G ρ σ H _ j (Post.imp h fun G1 ρ1 x H1 d e1 r1 h1 => ?_)
  cases hb : isObj c m d with
  | false => rw [hb] at h1; exact h1.elim
  | true =>
    rw [hb] at h1
    obtain ⟨a, dx, fs, rfl, z1, z2⟩ := r1.isObj hb
    refine ⟨a, dx, fs, rfl, e1.j.sub _ _ z1, z2, ?_⟩
    refine q G1 ρ1 σ H1 _ e1.j (Post.imp h1 fun G2 ρ2 vs H2 ds e2 r2 h2 => ?_)
    rw [List.append_nil]
    cases hF : F (d :: ds) with
    | none => rw [hF] at h2; exact h2.elim
    | some r =>
      refine ⟨G2, d :: ds, e2.j.sub, .cons (r1.mono e2.g) r2, hl _ (by rw [hF]; simp), ?_⟩
      rw [hF] at h2 ⊢
      cases r with
      | error y => exact fun C dx H' z => h2 C dx H' z.of0
      | ok r => exact fun G' v H' p rv => h2 G' v H' (e2.j.ex p) rv
/-- what o.m(..) runs: the receiver, the method, the arguments -/
abbrev byMeth (X : Cx) (o : Expr) (m : Str) (apos pos : Pos) (pl : Sem Bool) (args : List Expr) : Sem Value :=
  eval o X.env >>= fun ov => standAt apos.atName >>= fun _ => holding [ov] (getMethod ov m pl) >>= fun fm => callWith pos fm.1 fm.2 (backTo pos (starEach args X.env)) (backToKw pos (keywordEach [] X.env))
theorem ev_meth0 {k n : Nat} {c m : Str} {F : Fn} {o : Expr} {fo : Mo D} {apos pos : Pos} {pl : Sem Bool} (hM : MeE X.prog X.w X.K X.mg X.base k c m n F) (hr : Room k X.A) (hx : Passes (L2.CX X.prog X.w) X E) (ho : EV X E o fo)
    (ht : eval (.Call (.Attribute o m apos) [] [] pos) X.env = byMeth X o m apos pos pl [] := by rfl) : EV X E (.Call (.Attribute o m apos) [] [] pos) (mMeth c m F fo mNil) := by
  obtain ⟨hc, me, ⟨fd, ps, h1, h2⟩, hl⟩ := hM
  obtain ⟨ta, po, qo⟩ := ho
  exact ⟨_, pe_meth0 po hc me h1 hr h2 .nil hx ht, meth_sem qo (fun G ρ σ H Q j h => h G _ H j.refl .nil) hl⟩
theorem ev_meth {k n : Nat} {c m : Str} {F : Fn} {o e : Expr} {es : List Expr} {fo : Mo D} {f : Mo (List D)} {apos pos : Pos} {pl : Sem Bool} (hM : MeE X.prog X.w X.K X.mg X.base k c m n F) (hr : Room k X.A) (hx : Passes (L2.CX X.prog X.w) X E) (ho : EV X E o fo) (ha : EA X E (e :: es) f)
    (ht : eval (.Call (.Attribute o m apos) (e :: es) [] pos) X.env = byMeth X o m apos pos pl (e :: es) := by rfl) (hst : starEach (e :: es) X.env = (false, eval e X.env) :: starEach es X.env := by rfl) (hpl : (backTo pos (starEach es X.env)).any (·.1) = false := by rfl) : EV X E (.Call (.Attribute o m apos) (e :: es) [] pos) (mMeth c m F fo f) := by
  obtain ⟨hc, me, ⟨fd, ps, h1, h2⟩, hl⟩ := hM
  obtain ⟨ta, po, qo⟩ := ho
  obtain ⟨t, pt, q⟩ := ha
  exact ⟨_, pe_meth po hc me h1 hr h2 .nil hx pt hst hpl ht, meth_sem qo q hl⟩
end
theorem meth_ok {P : Program} {w : World} {K : PySem.W.Frag} {mg : Str → Option Value} {base : Heap} {c m qual : Str} {st : Stmt} {fd : FuncData} {N ps : List Str} {k : Nat} {g : Mo Fl} (F : FunD K m qual (defArgs st) (defBody st) (defScope st) [] [] (He.ma K (He.ga K c) m) fd) (S : FnScope N ps (defScope st)) (hc : Cls K (He.ga K c)) (me : Meth K (He.ga K c) m (He.ma K (He.ga K c) m))
    (b : ∀ (kV doc pm : Value) (an : Option Addr) (cdv ct : Value) (us : List Value), us.length = ps.length → bindArgs (PySem.W.fnOf m qual (defArgs st) (defBody st) (defScope st) .none kV doc pm an cdv ct) ⟨us, []⟩ = pure (ps.zip us))
    (hb : ∀ (cdv : Value) (A : Around) (outer : List PySem.Env) (s : Shared) (H : Hp) (E : XK), Room k (A.deeper (PyProof.Rows.envOfC qual (defScope st) s.heap.objs.size (He.ma K (He.ga K c) m) cdv)) → SVs (cxOf (L2.CX P w) P w K mg base N qual (defScope st) (He.ma K (He.ga K c) m) cdv A outer s H E) E (defBody st) g) :
    MeE P w K mg base (k + 1) c m ps.length (guard ps.length (runF N.length g)) := by
  refine ⟨hc, me, ⟨fd, ps, F.ok S (fun vs H Q E h => ?_) fun cdv A outer s H vs Q E hr h => ?_, F.bindsN b⟩, fun ds h => guard_len h⟩
  · obtain ⟨G, ds, _, r, hl, _⟩ := h
    rw [r.length, hl]
  · obtain ⟨t, p, q⟩ := hb cdv A outer s H E hr
    exact ⟨t, p, body_sem q h⟩
section
variable {X : Cx} {E : XK}
/-! ### an expression within __init__ -/
def oDrop (f : Mo D) (g : MoO) : MoO := fun kvs ρ => match f ρ with
  | none => none
  | some (.error y) => some (.error y)
  | some (.ok (ρ1, _)) => g kvs ρ1
theorem so_expr {c : Str} {e : Expr} {rest : List Stmt} {pos : Pos} {f : Mo D} {g : MoO} (he : EV X E e f) (h2 : SO X E c rest g) (hs : swapsWith e none pos.line X.env = pure false := by rfl) : SO X E c (.Expr e pos :: rest) (oDrop f g) := by
  obtain ⟨t0, p0, q0⟩ := he
  obtain ⟨t2, p2, q2⟩ := h2
  refine ⟨_, pss_cons (ps_expr p0 hs) p2, fun x kvs G ρ σ H De j o h0 h => ?_⟩
  refine q0 G ρ σ H _ j ?_
  unfold oDrop at h
  match hc : f ρ, h with
  | none, h => exact h.elim
  | some (.error y), h => exact h
  | some (.ok (ρ1, b)), h =>
    intro G1 b H1 e1 r1
    refine q2 x kvs G1 ρ1 σ H1 De e1.j (o.ex e1) h0 ?_
    match hg : g kvs ρ1, h with
    | none, h => simp only [hg] at h; exact h.elim
    | some (.error y), h => simp only [hg] at h; exact fun C dx H' z => h C dx H' (XP.trans e1 z)
    | some (.ok (ρ2, kvs2)), h => simp only [hg] at h; exact fun G2 σ2 H2 o2 => h G2 σ2 H2 (e1.ox o2)
end
end HB
namespace HB
open PySem L2
def topS (i : Nat) : Stmt := PySem.Challenge.pw_handlebends_k60_nearest_known.main.body.getD i (.Pass ⟨0, 0, 0, 0⟩)
abbrev s_is_less : Stmt := topS 21
abbrev s_common_part : Stmt := topS 13
abbrev s_in_lowest : Stmt := topS 14
abbrev s_less_by : Stmt := topS 18
abbrev s_lots_of : Stmt := topS 56
abbrev s_sign_of : Stmt := topS 23
abbrev s_size_of : Stmt := topS 24
abbrev s_multiplied : Stmt := topS 19
abbrev s_added : Stmt := topS 17
abbrev s_summed : Stmt := topS 25
abbrev s_together : Stmt := topS 40
abbrev s_less_row : Stmt := topS 41
abbrev s_quotient : Stmt := topS 20
abbrev s_reduced : Stmt := topS 42
abbrev s_killed : Stmt := topS 43
abbrev s_turned : Stmt := topS 45
abbrev s_weights_of_lot : Stmt := topS 57
abbrev s_best_weighing : Stmt := topS 58
abbrev s_is_integer : Stmt := topS 11
abbrev s_is_value : Stmt := topS 15
abbrev s_value_of : Stmt := topS 16
abbrev s_is_inside : Stmt := topS 47
abbrev s_is_next : Stmt := topS 48
abbrev s_is_sequence : Stmt := topS 12
abbrev s_need_points : Stmt := topS 55
abbrev s_size_for : Stmt := topS 49
abbrev s_share_of : Stmt := topS 37
abbrev s_is_at_most : Stmt := topS 22
abbrev s_span_of : Stmt := topS 36
abbrev s_all_weights : Stmt := topS 38
abbrev s_knots_of : Stmt := topS 35
abbrev s_weight_rows : Stmt := topS 50
abbrev s_weighing : Stmt := topS 65
abbrev s_is_row : Stmt := topS 51
abbrev s_kills : Stmt := topS 52
abbrev s_weighing_holds : Stmt := topS 66
abbrev s_law_papers_right : Stmt := topS 68
abbrev s_least_miss : Stmt := topS 59
abbrev s_are_marks : Stmt := topS 31
abbrev s_text_of : Stmt := topS 26
abbrev s_text_of_bend : Stmt := topS 33
abbrev s_Bend_init : Stmt := (C8.clsBody (topS 32)).getD 0 (.Pass ⟨0, 0, 0, 0⟩)
abbrev s_misses : Stmt := topS 62
abbrev s_moved_by : Stmt := topS 60
abbrev s_signs_of : Stmt := topS 61
abbrev s_solved : Stmt := topS 44
abbrev s_drawn_near : Stmt := topS 63
abbrev s_nearest : Stmt := topS 64
abbrev s_law : Stmt := topS 69
def C_NOUGHT : D := .tuple [.int 0, .int 1]
def C_ONE : D := .tuple [.int 1, .int 1]
def C_PAIR_nearest : D := .int 2
def C_PAIR_values : D := .int 2
structure Say (K : PySem.W.Frag) (mg : Str → Option Value) : Prop where
  m_abs : mg "abs" = none
  m_all : mg "all" = none
  m_any : mg "any" = none
  m_bool : mg "bool" = none
  m_enumerate : mg "enumerate" = none
  m_int : mg "int" = none
  m_isinstance : mg "isinstance" = none
  m_len : mg "len" = none
  m_list : mg "list" = none
  m_range : mg "range" = none
  m_str : mg "str" = none
  m_tuple : mg "tuple" = none
  m_zip : mg "zip" = none
  c_NOUGHT : GlD K mg "NOUGHT" C_NOUGHT
  c_ONE : GlD K mg "ONE" C_ONE
  c_PAIR_nearest : GlD K mg "PAIR_nearest" C_PAIR_nearest
  c_PAIR_values : GlD K mg "PAIR_values" C_PAIR_values
  cl_Bend : Cls K (He.ga K "Bend")
  mk_Bend : Mk K (He.ga K "Bend") (He.ma K (He.ga K "Bend") "__init__")
  gc_Bend : mg "Bend" = some (.ref (He.ga K "Bend"))
  na_Bend_degree : NoAttr K (He.ga K "Bend") "degree"
  na_Bend_handles : NoAttr K (He.ga K "Bend") "handles"
  na_Bend_marks : NoAttr K (He.ga K "Bend") "marks"
  na_Bend_text : NoAttr K (He.ga K "Bend") "text"
  d_is_less : ∃ fd, FunD K "is_less" "is_less" (defArgs s_is_less) (defBody s_is_less) (defScope s_is_less) [] [] (He.ga K "is_less") fd
  g_is_less : mg "is_less" = some (.ref (He.ga K "is_less"))
  d_common_part : ∃ fd, FunD K "common_part" "common_part" (defArgs s_common_part) (defBody s_common_part) (defScope s_common_part) [] [] (He.ga K "common_part") fd
  g_common_part : mg "common_part" = some (.ref (He.ga K "common_part"))
  d_in_lowest : ∃ fd, FunD K "in_lowest" "in_lowest" (defArgs s_in_lowest) (defBody s_in_lowest) (defScope s_in_lowest) [] [] (He.ga K "in_lowest") fd
  g_in_lowest : mg "in_lowest" = some (.ref (He.ga K "in_lowest"))
  d_less_by : ∃ fd, FunD K "less_by" "less_by" (defArgs s_less_by) (defBody s_less_by) (defScope s_less_by) [] [] (He.ga K "less_by") fd
  g_less_by : mg "less_by" = some (.ref (He.ga K "less_by"))
  d_lots_of : ∃ fd, FunD K "lots_of" "lots_of" (defArgs s_lots_of) (defBody s_lots_of) (defScope s_lots_of) [] [] (He.ga K "lots_of") fd
  g_lots_of : mg "lots_of" = some (.ref (He.ga K "lots_of"))
  d_sign_of : ∃ fd, FunD K "sign_of" "sign_of" (defArgs s_sign_of) (defBody s_sign_of) (defScope s_sign_of) [] [] (He.ga K "sign_of") fd
  g_sign_of : mg "sign_of" = some (.ref (He.ga K "sign_of"))
  d_size_of : ∃ fd, FunD K "size_of" "size_of" (defArgs s_size_of) (defBody s_size_of) (defScope s_size_of) [] [] (He.ga K "size_of") fd
  g_size_of : mg "size_of" = some (.ref (He.ga K "size_of"))
  d_multiplied : ∃ fd, FunD K "multiplied" "multiplied" (defArgs s_multiplied) (defBody s_multiplied) (defScope s_multiplied) [] [] (He.ga K "multiplied") fd
  g_multiplied : mg "multiplied" = some (.ref (He.ga K "multiplied"))
  d_added : ∃ fd, FunD K "added" "added" (defArgs s_added) (defBody s_added) (defScope s_added) [] [] (He.ga K "added") fd
  g_added : mg "added" = some (.ref (He.ga K "added"))
  d_summed : ∃ fd, FunD K "summed" "summed" (defArgs s_summed) (defBody s_summed) (defScope s_summed) [] [] (He.ga K "summed") fd
  g_summed : mg "summed" = some (.ref (He.ga K "summed"))
  d_together : ∃ fd, FunD K "together" "together" (defArgs s_together) (defBody s_together) (defScope s_together) [] [] (He.ga K "together") fd
  g_together : mg "together" = some (.ref (He.ga K "together"))
  d_less_row : ∃ fd, FunD K "less_row" "less_row" (defArgs s_less_row) (defBody s_less_row) (defScope s_less_row) [] [] (He.ga K "less_row") fd
  g_less_row : mg "less_row" = some (.ref (He.ga K "less_row"))
  d_quotient : ∃ fd, FunD K "quotient" "quotient" (defArgs s_quotient) (defBody s_quotient) (defScope s_quotient) [] [] (He.ga K "quotient") fd
  g_quotient : mg "quotient" = some (.ref (He.ga K "quotient"))
  d_reduced : ∃ fd, FunD K "reduced" "reduced" (defArgs s_reduced) (defBody s_reduced) (defScope s_reduced) [] [] (He.ga K "reduced") fd
  g_reduced : mg "reduced" = some (.ref (He.ga K "reduced"))
  d_killed : ∃ fd, FunD K "killed" "killed" (defArgs s_killed) (defBody s_killed) (defScope s_killed) [] [] (He.ga K "killed") fd
  g_killed : mg "killed" = some (.ref (He.ga K "killed"))
  d_turned : ∃ fd, FunD K "turned" "turned" (defArgs s_turned) (defBody s_turned) (defScope s_turned) [] [] (He.ga K "turned") fd
  g_turned : mg "turned" = some (.ref (He.ga K "turned"))
  d_weights_of_lot : ∃ fd, FunD K "weights_of_lot" "weights_of_lot" (defArgs s_weights_of_lot) (defBody s_weights_of_lot) (defScope s_weights_of_lot) [] [] (He.ga K "weights_of_lot") fd
  g_weights_of_lot : mg "weights_of_lot" = some (.ref (He.ga K "weights_of_lot"))
  d_best_weighing : ∃ fd, FunD K "best_weighing" "best_weighing" (defArgs s_best_weighing) (defBody s_best_weighing) (defScope s_best_weighing) [] [] (He.ga K "best_weighing") fd
  g_best_weighing : mg "best_weighing" = some (.ref (He.ga K "best_weighing"))
  d_is_integer : ∃ fd, FunD K "is_integer" "is_integer" (defArgs s_is_integer) (defBody s_is_integer) (defScope s_is_integer) [] [] (He.ga K "is_integer") fd
  g_is_integer : mg "is_integer" = some (.ref (He.ga K "is_integer"))
  d_is_value : ∃ fd, FunD K "is_value" "is_value" (defArgs s_is_value) (defBody s_is_value) (defScope s_is_value) [] [] (He.ga K "is_value") fd
  g_is_value : mg "is_value" = some (.ref (He.ga K "is_value"))
  d_value_of : ∃ fd, FunD K "value_of" "value_of" (defArgs s_value_of) (defBody s_value_of) (defScope s_value_of) [] [] (He.ga K "value_of") fd
  g_value_of : mg "value_of" = some (.ref (He.ga K "value_of"))
  d_is_inside : ∃ fd, FunD K "is_inside" "is_inside" (defArgs s_is_inside) (defBody s_is_inside) (defScope s_is_inside) [] [] (He.ga K "is_inside") fd
  g_is_inside : mg "is_inside" = some (.ref (He.ga K "is_inside"))
  d_is_next : ∃ fd, FunD K "is_next" "is_next" (defArgs s_is_next) (defBody s_is_next) (defScope s_is_next) [] [] (He.ga K "is_next") fd
  g_is_next : mg "is_next" = some (.ref (He.ga K "is_next"))
  d_is_sequence : ∃ fd, FunD K "is_sequence" "is_sequence" (defArgs s_is_sequence) (defBody s_is_sequence) (defScope s_is_sequence) [] [] (He.ga K "is_sequence") fd
  g_is_sequence : mg "is_sequence" = some (.ref (He.ga K "is_sequence"))
  d_need_points : ∃ fd, FunD K "need_points" "need_points" (defArgs s_need_points) (defBody s_need_points) (defScope s_need_points) [] [] (He.ga K "need_points") fd
  g_need_points : mg "need_points" = some (.ref (He.ga K "need_points"))
  d_size_for : ∃ fd, FunD K "size_for" "size_for" (defArgs s_size_for) (defBody s_size_for) (defScope s_size_for) [] [] (He.ga K "size_for") fd
  g_size_for : mg "size_for" = some (.ref (He.ga K "size_for"))
  d_share_of : ∃ fd, FunD K "share_of" "share_of" (defArgs s_share_of) (defBody s_share_of) (defScope s_share_of) [] [] (He.ga K "share_of") fd
  g_share_of : mg "share_of" = some (.ref (He.ga K "share_of"))
  d_is_at_most : ∃ fd, FunD K "is_at_most" "is_at_most" (defArgs s_is_at_most) (defBody s_is_at_most) (defScope s_is_at_most) [] [] (He.ga K "is_at_most") fd
  g_is_at_most : mg "is_at_most" = some (.ref (He.ga K "is_at_most"))
  d_span_of : ∃ fd, FunD K "span_of" "span_of" (defArgs s_span_of) (defBody s_span_of) (defScope s_span_of) [] [] (He.ga K "span_of") fd
  g_span_of : mg "span_of" = some (.ref (He.ga K "span_of"))
  d_all_weights : ∃ fd, FunD K "all_weights" "all_weights" (defArgs s_all_weights) (defBody s_all_weights) (defScope s_all_weights) [] [] (He.ga K "all_weights") fd
  g_all_weights : mg "all_weights" = some (.ref (He.ga K "all_weights"))
  d_knots_of : ∃ fd, FunD K "knots_of" "knots_of" (defArgs s_knots_of) (defBody s_knots_of) (defScope s_knots_of) [] [] (He.ga K "knots_of") fd
  g_knots_of : mg "knots_of" = some (.ref (He.ga K "knots_of"))
  d_weight_rows : ∃ fd, FunD K "weight_rows" "weight_rows" (defArgs s_weight_rows) (defBody s_weight_rows) (defScope s_weight_rows) [] [] (He.ga K "weight_rows") fd
  g_weight_rows : mg "weight_rows" = some (.ref (He.ga K "weight_rows"))
  d_weighing : ∃ fd, FunD K "weighing" "weighing" (defArgs s_weighing) (defBody s_weighing) (defScope s_weighing) [] [] (He.ga K "weighing") fd
  g_weighing : mg "weighing" = some (.ref (He.ga K "weighing"))
  d_is_row : ∃ fd, FunD K "is_row" "is_row" (defArgs s_is_row) (defBody s_is_row) (defScope s_is_row) [] [] (He.ga K "is_row") fd
  g_is_row : mg "is_row" = some (.ref (He.ga K "is_row"))
  d_kills : ∃ fd, FunD K "kills" "kills" (defArgs s_kills) (defBody s_kills) (defScope s_kills) [] [] (He.ga K "kills") fd
  g_kills : mg "kills" = some (.ref (He.ga K "kills"))
  d_weighing_holds : ∃ fd, FunD K "weighing_holds" "weighing_holds" (defArgs s_weighing_holds) (defBody s_weighing_holds) (defScope s_weighing_holds) [] [] (He.ga K "weighing_holds") fd
  g_weighing_holds : mg "weighing_holds" = some (.ref (He.ga K "weighing_holds"))
  d_law_papers_right : ∃ fd, FunD K "_law_papers_right" "_law_papers_right" (defArgs s_law_papers_right) (defBody s_law_papers_right) (defScope s_law_papers_right) [] [] (He.ga K "_law_papers_right") fd
  g_law_papers_right : mg "_law_papers_right" = some (.ref (He.ga K "_law_papers_right"))
  d_least_miss : ∃ fd, FunD K "least_miss" "least_miss" (defArgs s_least_miss) (defBody s_least_miss) (defScope s_least_miss) [] [] (He.ga K "least_miss") fd
  g_least_miss : mg "least_miss" = some (.ref (He.ga K "least_miss"))
  d_are_marks : ∃ fd, FunD K "are_marks" "are_marks" (defArgs s_are_marks) (defBody s_are_marks) (defScope s_are_marks) [] [] (He.ga K "are_marks") fd
  g_are_marks : mg "are_marks" = some (.ref (He.ga K "are_marks"))
  d_text_of : ∃ fd, FunD K "text_of" "text_of" (defArgs s_text_of) (defBody s_text_of) (defScope s_text_of) [] [] (He.ga K "text_of") fd
  g_text_of : mg "text_of" = some (.ref (He.ga K "text_of"))
  d_text_of_bend : ∃ fd, FunD K "text_of_bend" "text_of_bend" (defArgs s_text_of_bend) (defBody s_text_of_bend) (defScope s_text_of_bend) [] [] (He.ga K "text_of_bend") fd
  g_text_of_bend : mg "text_of_bend" = some (.ref (He.ga K "text_of_bend"))
  d_Bend_init : ∃ fd, FunD K "__init__" "Bend.__init__" (defArgs s_Bend_init) (defBody s_Bend_init) (defScope s_Bend_init) [] [] (He.ma K (He.ga K "Bend") "__init__") fd
  d_misses : ∃ fd, FunD K "misses" "misses" (defArgs s_misses) (defBody s_misses) (defScope s_misses) [] [] (He.ga K "misses") fd
  g_misses : mg "misses" = some (.ref (He.ga K "misses"))
  d_moved_by : ∃ fd, FunD K "moved_by" "moved_by" (defArgs s_moved_by) (defBody s_moved_by) (defScope s_moved_by) [] [] (He.ga K "moved_by") fd
  g_moved_by : mg "moved_by" = some (.ref (He.ga K "moved_by"))
  d_signs_of : ∃ fd, FunD K "signs_of" "signs_of" (defArgs s_signs_of) (defBody s_signs_of) (defScope s_signs_of) [] [] (He.ga K "signs_of") fd
  g_signs_of : mg "signs_of" = some (.ref (He.ga K "signs_of"))
  d_solved : ∃ fd, FunD K "solved" "solved" (defArgs s_solved) (defBody s_solved) (defScope s_solved) [] [] (He.ga K "solved") fd
  g_solved : mg "solved" = some (.ref (He.ga K "solved"))
  d_drawn_near : ∃ fd, FunD K "drawn_near" "drawn_near" (defArgs s_drawn_near) (defBody s_drawn_near) (defScope s_drawn_near) [] [] (He.ga K "drawn_near") fd
  g_drawn_near : mg "drawn_near" = some (.ref (He.ga K "drawn_near"))
  d_nearest : ∃ fd, FunD K "nearest" "nearest" (defArgs s_nearest) (defBody s_nearest) (defScope s_nearest) [] [] (He.ga K "nearest") fd
  g_nearest : mg "nearest" = some (.ref (He.ga K "nearest"))
  d_law : ∃ fd, FunD K "law" "law" (defArgs s_law) (defBody s_law) (defScope s_law) [] [] (He.ga K "law") fd
  g_law : mg "law" = some (.ref (He.ga K "law"))
theorem sc_is_less : FnScope ["one", "other"] ["one", "other"] (defScope s_is_less) := ⟨rfl, rfl, rfl, by decide +kernel, rfl, by decide +kernel, by decide +kernel⟩
def g_is_less : Mo Fl := sRet (mOp (cmpD ltI) (mOp mulD (mOp ixD (mVar 0) (mRet (.int 0))) (mOp ixD (mVar 1) (mRet (.int 1)))) (mOp mulD (mOp ixD (mVar 1) (mRet (.int 0))) (mOp ixD (mVar 0) (mRet (.int 1)))))
def F_is_less : Fn := M_is_less
theorem ok_is_less {P : Program} {w : World} {K : PySem.W.Frag} {mg : Str → Option Value} {base : Heap} (T : Say K mg) : FnE P w K mg base 1 "is_less" ["one", "other"] F_is_less := by
  obtain ⟨fd, F⟩ := T.d_is_less
  exact FnE.by (F := guard 2 (runF 2 g_is_less)) (fn_ok F sc_is_less T.g_is_less (fun _ _ _ _ _ _ us hl => match us, hl with | [_, _], _ => rfl) fun cdv A outer s H E hr =>
    ss_one (s_ret (ev_cmp dop_lt (ev_op dop_mul (ev_ix (ev_var 0) (ev_int)) (ev_ix (ev_var 1) (ev_int))) (ev_op dop_mul (ev_ix (ev_var 1) (ev_int)) (ev_ix (ev_var 0) (ev_int))) (nomark _)))) mir_is_less
theorem sc_common_part : FnScope ["one", "other"] ["one", "other"] (defScope s_common_part) := ⟨rfl, rfl, rfl, by decide +kernel, rfl, by decide +kernel, by decide +kernel⟩
def g_common_part : Mo Fl := sSeq (sPar2 0 1 (xConsP (mBuilt absD (mCons (mVar 0) (mNil))) (xConsP (mBuilt absD (mCons (mVar 1) (mNil))) (xNil))))
  (sSeq (sWhile (fuelInt 1) (mTest (mOp (cmpD gtI) (mVar 1) (mRet (.int 0)))) (sPar2 0 1 (xConsP (mVar 1) (xConsP (mOp modD (mVar 0) (mVar 1)) (xNil)))))
  (sRet (mVar 0)))
def F_common_part : Fn := M_common_part
theorem ok_common_part {P : Program} {w : World} {K : PySem.W.Frag} {mg : Str → Option Value} {base : Heap} (T : Say K mg) : FnE P w K mg base 1 "common_part" ["one", "other"] F_common_part := by
  obtain ⟨fd, F⟩ := T.d_common_part
  exact FnE.by (F := guard 2 (runF 2 g_common_part)) (fn_ok F sc_common_part T.g_common_part (fun _ _ _ _ _ _ us hl => match us, hl with | [_, _], _ => rfl) fun cdv A outer s H E hr =>
    ss_cons (s_par2 (i := 0) (j := 1) rfl sc_common_part.nd (ex_consP (ev_callB dc_abs (T.m_abs) (by decide +kernel) (ea_cons (ev_var 0) (ea_nil))) (ex_consP (ev_callB dc_abs (T.m_abs) (by decide +kernel) (ea_cons (ev_var 1) (ea_nil))) (ex_nil))))
    (ss_cons (s_while (fuelInt 1) pass_own (et_cmp dop_gt (ev_var 1) (ev_int) (nomark _)) (ss_one (s_par2 (i := 0) (j := 1) rfl sc_common_part.nd (ex_consP (ev_var 1) (ex_consP (ev_op dop_mod (ev_var 0) (ev_var 1)) (ex_nil))))))
    (ss_one (s_ret (ev_var 0))))) mir_common_part
theorem sc_in_lowest : FnScope ["top", "bottom", "part"] ["top", "bottom"] (defScope s_in_lowest) := ⟨rfl, rfl, rfl, by decide +kernel, rfl, by decide +kernel, by decide +kernel⟩
def g_in_lowest : Mo Fl := sSeq (sSet 2 (mCall F_common_part (mCons (mVar 0) (mCons (mVar 1) (mNil)))))
  (sRet (mIf (mTest (mOp (cmpD gtI) (mVar 1) (mRet (.int 0)))) (mTup (mCons (mOp fdivD (mVar 0) (mVar 2)) (mCons (mOp fdivD (mVar 1) (mVar 2)) (mNil)))) (mTup (mCons (mOp fdivD (mUn negD (mVar 0)) (mVar 2)) (mCons (mOp fdivD (mUn negD (mVar 1)) (mVar 2)) (mNil))))))
def F_in_lowest : Fn := M_in_lowest
theorem ok_in_lowest {P : Program} {w : World} {K : PySem.W.Frag} {mg : Str → Option Value} {base : Heap} (T : Say K mg) : FnE P w K mg base 2 "in_lowest" ["top", "bottom"] F_in_lowest := by
  obtain ⟨fd, F⟩ := T.d_in_lowest
  exact FnE.by (F := guard 2 (runF 3 g_in_lowest)) (fn_ok F sc_in_lowest T.g_in_lowest (fun _ _ _ _ _ _ us hl => match us, hl with | [_, _], _ => rfl) fun cdv A outer s H E hr =>
    ss_cons (s_set (i := 2) (ev_call (ok_common_part T) (hr.mono (by decide)) pass_cx (ea_cons (ev_var 0) (ea_cons (ev_var 1) (ea_nil)))) sc_in_lowest.nd)
    (ss_one (s_ret (ev_if (et_cmp dop_gt (ev_var 1) (ev_int) (nomark _)) (ev_tup (ea_cons (ev_op dop_fdiv (ev_var 0) (ev_var 2)) (ea_cons (ev_op dop_fdiv (ev_var 1) (ev_var 2)) (ea_nil)))) (ev_tup (ea_cons (ev_op dop_fdiv (ev_neg (ev_var 0)) (ev_var 2)) (ea_cons (ev_op dop_fdiv (ev_neg (ev_var 1)) (ev_var 2)) (ea_nil)))))))) mir_in_lowest
theorem sc_less_by : FnScope ["one", "other"] ["one", "other"] (defScope s_less_by) := ⟨rfl, rfl, rfl, by decide +kernel, rfl, by decide +kernel, by decide +kernel⟩
def g_less_by : Mo Fl := sRet (mCall F_in_lowest (mCons (mOp subD (mOp mulD (mOp ixD (mVar 0) (mRet (.int 0))) (mOp ixD (mVar 1) (mRet (.int 1)))) (mOp mulD (mOp ixD (mVar 1) (mRet (.int 0))) (mOp ixD (mVar 0) (mRet (.int 1))))) (mCons (mOp mulD (mOp ixD (mVar 0) (mRet (.int 1))) (mOp ixD (mVar 1) (mRet (.int 1)))) (mNil))))
def F_less_by : Fn := M_less_by
theorem ok_less_by {P : Program} {w : World} {K : PySem.W.Frag} {mg : Str → Option Value} {base : Heap} (T : Say K mg) : FnE P w K mg base 3 "less_by" ["one", "other"] F_less_by := by
  obtain ⟨fd, F⟩ := T.d_less_by
  exact FnE.by (F := guard 2 (runF 2 g_less_by)) (fn_ok F sc_less_by T.g_less_by (fun _ _ _ _ _ _ us hl => match us, hl with | [_, _], _ => rfl) fun cdv A outer s H E hr =>
    ss_one (s_ret (ev_call (ok_in_lowest T) (hr.mono (by decide)) pass_cx (ea_cons (ev_op dop_sub (ev_op dop_mul (ev_ix (ev_var 0) (ev_int)) (ev_ix (ev_var 1) (ev_int))) (ev_op dop_mul (ev_ix (ev_var 1) (ev_int)) (ev_ix (ev_var 0) (ev_int)))) (ea_cons (ev_op dop_mul (ev_ix (ev_var 0) (ev_int)) (ev_ix (ev_var 1) (ev_int))) (ea_nil)))))) mir_less_by
theorem sc_lots_of : FnScope ["size", "found", "at", "lot"] ["size"] (defScope s_lots_of) := ⟨rfl, rfl, rfl, by decide +kernel, rfl, by decide +kernel, by decide +kernel⟩
def g_lots_of_1 : Mo Fl := sSet 1 (mList (mSized (mStar (mVar 1) (mStar (mList (mBlk [3] (mSeqS (mVar 1)) (lcBody [3] (gSet 3) (mRet true) (mTup (mStar (mVar 3) (mCons (mVar 2) (mNil))))))) (mNil)))))
def g_lots_of_2 : Mo Fl := sSeq (sFor (mRange range1D (mCons (mVar 0) (mNil))) (gSet 2) (g_lots_of_1))
  (sRet (mVar 1))
def g_lots_of : Mo Fl := sSeq (sSet 1 (mList (mSized (mCons (mTup (mNil)) (mNil)))))
  (g_lots_of_2)
def F_lots_of : Fn := guard 1 (runF 4 g_lots_of)
theorem ok_lots_of {P : Program} {w : World} {K : PySem.W.Frag} {mg : Str → Option Value} {base : Heap} (T : Say K mg) : FnE P w K mg base 1 "lots_of" ["size"] F_lots_of := by
  obtain ⟨fd, F⟩ := T.d_lots_of
  exact fn_ok F sc_lots_of T.g_lots_of (fun _ _ _ _ _ _ us hl => match us, hl with | [_], _ => rfl) fun cdv A outer s H E hr =>
    ss_cons (s_set (i := 1) ((en_lst (ea_cons (ev_tup (ea_nil)) (ea_nil))).ev) sc_lots_of.nd)
    (ss_cons (s_for pass_own rfl (iv_range1 (T.m_range) (ea_cons (ev_var 0) (ea_nil))) const_range1 (gv_name (i := 2) sc_lots_of.nd) (ss_one (s_set (i := 1) ((en_lst (ea_star (ev_var 1) (ea_star (((lc_c (own := [("lot", 3)]) (iv_seq (ev_var 1)) const_seq (blkOk_by (own := [("lot", 3)]) (by kernel_rfl)) (fun _ _ _ _ _ => gv_name (i := 3) sc_lots_of.nd) (fun _ _ _ _ _ => eif_nil) (fun _ _ _ _ _ => ev_tup (ea_star (ev_var 3) (ea_cons (ev_var 2) (ea_nil))))).en rfl sc_lots_of.nd).ev) (ea_nil)))).ev) sc_lots_of.nd)))
    (ss_one (s_ret (ev_var 1))))
theorem sc_sign_of : FnScope ["value"] ["value"] (defScope s_sign_of) := ⟨rfl, rfl, rfl, by decide +kernel, rfl, by decide +kernel, by decide +kernel⟩
def g_sign_of : Mo Fl := sRet (mOp subBD (mOp (cmpD gtI) (mOp ixD (mVar 0) (mRet (.int 0))) (mRet (.int 0))) (mOp (cmpD ltI) (mOp ixD (mVar 0) (mRet (.int 0))) (mRet (.int 0))))
def F_sign_of : Fn := guard 1 (runF 1 g_sign_of)
theorem ok_sign_of {P : Program} {w : World} {K : PySem.W.Frag} {mg : Str → Option Value} {base : Heap} (T : Say K mg) : FnE P w K mg base 1 "sign_of" ["value"] F_sign_of := by
  obtain ⟨fd, F⟩ := T.d_sign_of
  exact fn_ok F sc_sign_of T.g_sign_of (fun _ _ _ _ _ _ us hl => match us, hl with | [_], _ => rfl) fun cdv A outer s H E hr =>
    ss_one (s_ret (ev_op dop_subB (ev_cmp dop_gt (ev_ix (ev_var 0) (ev_int)) (ev_int) (nomark _)) (ev_cmp dop_lt (ev_ix (ev_var 0) (ev_int)) (ev_int) (nomark _))))
theorem sc_size_of : FnScope ["value"] ["value"] (defScope s_size_of) := ⟨rfl, rfl, rfl, by decide +kernel, rfl, by decide +kernel, by decide +kernel⟩
def g_size_of : Mo Fl := sRet (mTup (mCons (mBuilt absD (mCons (mOp ixD (mVar 0) (mRet (.int 0))) (mNil))) (mCons (mOp ixD (mVar 0) (mRet (.int 1))) (mNil))))
def F_size_of : Fn := guard 1 (runF 1 g_size_of)
theorem ok_size_of {P : Program} {w : World} {K : PySem.W.Frag} {mg : Str → Option Value} {base : Heap} (T : Say K mg) : FnE P w K mg base 1 "size_of" ["value"] F_size_of := by
  obtain ⟨fd, F⟩ := T.d_size_of
  exact fn_ok F sc_size_of T.g_size_of (fun _ _ _ _ _ _ us hl => match us, hl with | [_], _ => rfl) fun cdv A outer s H E hr =>
    ss_one (s_ret (ev_tup (ea_cons (ev_callB dc_abs (T.m_abs) (by decide +kernel) (ea_cons (ev_ix (ev_var 0) (ev_int)) (ea_nil))) (ea_cons (ev_ix (ev_var 0) (ev_int)) (ea_nil)))))
theorem sc_multiplied : FnScope ["one", "other"] ["one", "other"] (defScope s_multiplied) := ⟨rfl, rfl, rfl, by decide +kernel, rfl, by decide +kernel, by decide +kernel⟩
def g_multiplied : Mo Fl := sRet (mCall F_in_lowest (mCons (mOp mulD (mOp ixD (mVar 0) (mRet (.int 0))) (mOp ixD (mVar 1) (mRet (.int 0)))) (mCons (mOp mulD (mOp ixD (mVar 0) (mRet (.int 1))) (mOp ixD (mVar 1) (mRet (.int 1)))) (mNil))))
def F_multiplied : Fn := M_multiplied
theorem ok_multiplied {P : Program} {w : World} {K : PySem.W.Frag} {mg : Str → Option Value} {base : Heap} (T : Say K mg) : FnE P w K mg base 3 "multiplied" ["one", "other"] F_multiplied := by
  obtain ⟨fd, F⟩ := T.d_multiplied
  exact FnE.by (F := guard 2 (runF 2 g_multiplied)) (fn_ok F sc_multiplied T.g_multiplied (fun _ _ _ _ _ _ us hl => match us, hl with | [_, _], _ => rfl) fun cdv A outer s H E hr =>
    ss_one (s_ret (ev_call (ok_in_lowest T) (hr.mono (by decide)) pass_cx (ea_cons (ev_op dop_mul (ev_ix (ev_var 0) (ev_int)) (ev_ix (ev_var 1) (ev_int))) (ea_cons (ev_op dop_mul (ev_ix (ev_var 0) (ev_int)) (ev_ix (ev_var 1) (ev_int))) (ea_nil)))))) mir_multiplied
theorem sc_added : FnScope ["one", "other"] ["one", "other"] (defScope s_added) := ⟨rfl, rfl, rfl, by decide +kernel, rfl, by decide +kernel, by decide +kernel⟩
def g_added : Mo Fl := sRet (mCall F_in_lowest (mCons (mOp addD (mOp mulD (mOp ixD (mVar 0) (mRet (.int 0))) (mOp ixD (mVar 1) (mRet (.int 1)))) (mOp mulD (mOp ixD (mVar 1) (mRet (.int 0))) (mOp ixD (mVar 0) (mRet (.int 1))))) (mCons (mOp mulD (mOp ixD (mVar 0) (mRet (.int 1))) (mOp ixD (mVar 1) (mRet (.int 1)))) (mNil))))
def F_added : Fn := M_added
theorem ok_added {P : Program} {w : World} {K : PySem.W.Frag} {mg : Str → Option Value} {base : Heap} (T : Say K mg) : FnE P w K mg base 3 "added" ["one", "other"] F_added := by
  obtain ⟨fd, F⟩ := T.d_added
  exact FnE.by (F := guard 2 (runF 2 g_added)) (fn_ok F sc_added T.g_added (fun _ _ _ _ _ _ us hl => match us, hl with | [_, _], _ => rfl) fun cdv A outer s H E hr =>
    ss_one (s_ret (ev_call (ok_in_lowest T) (hr.mono (by decide)) pass_cx (ea_cons (ev_op dop_add (ev_op dop_mul (ev_ix (ev_var 0) (ev_int)) (ev_ix (ev_var 1) (ev_int))) (ev_op dop_mul (ev_ix (ev_var 1) (ev_int)) (ev_ix (ev_var 0) (ev_int)))) (ea_cons (ev_op dop_mul (ev_ix (ev_var 0) (ev_int)) (ev_ix (ev_var 1) (ev_int))) (ea_nil)))))) mir_added
theorem sc_summed : FnScope ["values", "found", "value"] ["values"] (defScope s_summed) := ⟨rfl, rfl, rfl, by decide +kernel, rfl, by decide +kernel, by decide +kernel⟩
def g_summed_1 : Mo Fl := sSet 1 (mCall F_added (mCons (mVar 1) (mCons (mVar 2) (mNil))))
def g_summed_2 : Mo Fl := sSeq (sFor (mSeqS (mVar 0)) (gSet 2) (g_summed_1))
  (sRet (mVar 1))
def g_summed : Mo Fl := sSeq (sSet 1 (mRet C_NOUGHT))
  (g_summed_2)
def F_summed : Fn := guard 1 (runF 3 g_summed)
theorem ok_summed {P : Program} {w : World} {K : PySem.W.Frag} {mg : Str → Option Value} {base : Heap} (T : Say K mg) : FnE P w K mg base 4 "summed" ["values"] F_summed := by
  obtain ⟨fd, F⟩ := T.d_summed
  exact fn_ok F sc_summed T.g_summed (fun _ _ _ _ _ _ us hl => match us, hl with | [_], _ => rfl) fun cdv A outer s H E hr =>
    ss_cons (s_set (i := 1) (ev_glob T.c_NOUGHT) sc_summed.nd)
    (ss_cons (s_for pass_own rfl (iv_seq (ev_var 0)) const_seq (gv_name (i := 2) sc_summed.nd) (ss_one (s_set (i := 1) (ev_call (ok_added T) (hr.mono (by decide)) pass_cx (ea_cons (ev_var 1) (ea_cons (ev_var 2) (ea_nil)))) sc_summed.nd)))
    (ss_one (s_ret (ev_var 1))))
theorem sc_together : FnScope ["one", "other", "here", "there"] ["one", "other"] (defScope s_together) := ⟨rfl, rfl, rfl, by decide +kernel, rfl, by decide +kernel, by decide +kernel⟩
def g_together : Mo Fl := sRet (mCall F_summed (mCons (mList (mBlk [2, 3] (mZipStrict (mCons (mVar 0) (mCons (mVar 1) (mNil)))) (lcBody [2, 3] (gTupD 2 (gConsD (gSet 2) (gConsD (gSet 3) (gNilD)))) (mRet true) (mCall F_multiplied (mCons (mVar 2) (mCons (mVar 3) (mNil))))))) (mNil)))
def F_together : Fn := guard 2 (runF 4 g_together)
theorem ok_together {P : Program} {w : World} {K : PySem.W.Frag} {mg : Str → Option Value} {base : Heap} (T : Say K mg) : FnE P w K mg base 5 "together" ["one", "other"] F_together := by
  obtain ⟨fd, F⟩ := T.d_together
  exact fn_ok F sc_together T.g_together (fun _ _ _ _ _ _ us hl => match us, hl with | [_, _], _ => rfl) fun cdv A outer s H E hr =>
    ss_one (s_ret (ev_call (ok_summed T) (hr.mono (by decide)) pass_cx (ea_cons (((lc_c (own := [("here", 2), ("there", 3)]) (iv_zipStrict (T.m_zip) (ea_cons (ev_var 0) (ea_cons (ev_var 1) (ea_nil)))) const_zipStrict (blkOk_by (own := [("here", 2), ("there", 3)]) (by kernel_rfl)) (fun _ _ _ _ _ => gv_tup rfl (gvs_cons (gv_name (i := 2) sc_together.nd) (gvs_cons (gv_name (i := 3) sc_together.nd) (gvs_nil)))) (fun _ _ _ _ _ => eif_nil) (fun _ _ _ _ _ => ev_call (ok_multiplied T) (hr.mono (by decide)) passL (ea_cons (ev_var 2) (ea_cons (ev_var 3) (ea_nil))))).en rfl sc_together.nd).ev) (ea_nil))))
theorem sc_less_row : FnScope ["one", "other", "factor", "here", "there"] ["one", "other", "factor"] (defScope s_less_row) := ⟨rfl, rfl, rfl, by decide +kernel, rfl, by decide +kernel, by decide +kernel⟩
def g_less_row : Mo Fl := sRet (mList (mBlk [3, 4] (mZipStrict (mCons (mVar 0) (mCons (mVar 1) (mNil)))) (lcBody [3, 4] (gTupD 2 (gConsD (gSet 3) (gConsD (gSet 4) (gNilD)))) (mRet true) (mCall F_less_by (mCons (mVar 3) (mCons (mCall F_multiplied (mCons (mVar 4) (mCons (mVar 2) (mNil)))) (mNil)))))))
def F_less_row : Fn := guard 3 (runF 5 g_less_row)
theorem ok_less_row {P : Program} {w : World} {K : PySem.W.Frag} {mg : Str → Option Value} {base : Heap} (T : Say K mg) : FnE P w K mg base 4 "less_row" ["one", "other", "factor"] F_less_row := by
  obtain ⟨fd, F⟩ := T.d_less_row
  exact fn_ok F sc_less_row T.g_less_row (fun _ _ _ _ _ _ us hl => match us, hl with | [_, _, _], _ => rfl) fun cdv A outer s H E hr =>
    ss_one (s_ret (((lc_c (own := [("here", 3), ("there", 4)]) (iv_zipStrict (T.m_zip) (ea_cons (ev_var 0) (ea_cons (ev_var 1) (ea_nil)))) const_zipStrict (blkOk_by (own := [("here", 3), ("there", 4)]) (by kernel_rfl)) (fun _ _ _ _ _ => gv_tup rfl (gvs_cons (gv_name (i := 3) sc_less_row.nd) (gvs_cons (gv_name (i := 4) sc_less_row.nd) (gvs_nil)))) (fun _ _ _ _ _ => eif_nil) (fun _ _ _ _ _ => ev_call (ok_less_by T) (hr.mono (by decide)) passL (ea_cons (ev_var 3) (ea_cons (ev_call (ok_multiplied T) (hr.mono (by decide)) passL (ea_cons (ev_var 4) (ea_cons (ev_var 2) (ea_nil)))) (ea_nil))))).en rfl sc_less_row.nd).ev))
theorem sc_quotient : FnScope ["one", "other"] ["one", "other"] (defScope s_quotient) := ⟨rfl, rfl, rfl, by decide +kernel, rfl, by decide +kernel, by decide +kernel⟩
def g_quotient : Mo Fl := sRet (mCall F_in_lowest (mCons (mOp mulD (mOp ixD (mVar 0) (mRet (.int 0))) (mOp ixD (mVar 1) (mRet (.int 1)))) (mCons (mOp mulD (mOp ixD (mVar 0) (mRet (.int 1))) (mOp ixD (mVar 1) (mRet (.int 0)))) (mNil))))
def F_quotient : Fn := M_quotient
theorem ok_quotient {P : Program} {w : World} {K : PySem.W.Frag} {mg : Str → Option Value} {base : Heap} (T : Say K mg) : FnE P w K mg base 3 "quotient" ["one", "other"] F_quotient := by
  obtain ⟨fd, F⟩ := T.d_quotient
  exact FnE.by (F := guard 2 (runF 2 g_quotient)) (fn_ok F sc_quotient T.g_quotient (fun _ _ _ _ _ _ us hl => match us, hl with | [_, _], _ => rfl) fun cdv A outer s H E hr =>
    ss_one (s_ret (ev_call (ok_in_lowest T) (hr.mono (by decide)) pass_cx (ea_cons (ev_op dop_mul (ev_ix (ev_var 0) (ev_int)) (ev_ix (ev_var 1) (ev_int))) (ea_cons (ev_op dop_mul (ev_ix (ev_var 0) (ev_int)) (ev_ix (ev_var 1) (ev_int))) (ea_nil)))))) mir_quotient
theorem sc_reduced : FnScope ["rows", "width", "at", "left", "found", "leads", "spots", "first", "lead", "row", "spot", "one"] ["rows"] (defScope s_reduced) := ⟨rfl, rfl, rfl, by decide +kernel, rfl, by decide +kernel, by decide +kernel⟩
def g_reduced_1 : Mo Fl := sSeq (sSet 4 (mList (mSized (mStar (mList (mBlk [9] (mSeqS (mVar 4)) (lcBody [9] (gSet 9) (mRet true) (mCall F_less_row (mCons (mVar 9) (mCons (mVar 8) (mCons (mOp ixD (mVar 9) (mVar 2)) (mNil)))))))) (mCons (mVar 8) (mNil))))))
  (sChg 5 (mCons (mVar 2) (mNil)) appC)
def g_reduced_2 : Mo Fl := sSeq (sOwn 3 (mBlk [9] (mOwnS 3) (fun s ρ => lcI [9] s (gSet 9) (mRet true) (mCall F_less_row (mCons (mVar 9) (mCons (mVar 8) (mCons (mOp ixD (mVar 9) (mVar 2)) (mNil))))) 1000000 0 ρ)))
  (g_reduced_1)
def g_reduced_3 : Mo Fl := sSeq (sSet 8 (mList (mBlk [11] (mSeqS (mVar 7)) (lcBody [11] (gSet 11) (mRet true) (mCall F_quotient (mCons (mVar 11) (mCons (mOp ixD (mVar 7) (mVar 2)) (mNil))))))))
  (g_reduced_2)
def g_reduced_4 : Mo Fl := sIf (mTest (mOp (cmpD gtI) (mBuilt lenD (mCons (mVar 6) (mNil))) (mRet (.int 0)))) (sSeq (sSet 7 (mPop 3 (mOp ixD (mVar 6) (mRet (.int 0)))))
  (g_reduced_3)) (sNext)
def g_reduced_5 : Mo Fl := sSeq (sSet 6 (mList (mBlk [10, 9] (mEnumO 3) (fun s ρ => lcI [10, 9] s (gTupD 2 (gConsD (gSet 10) (gConsD (gSet 9) (gNilD)))) (mTest (mOp neD (mOp ixD (mVar 9) (mVar 2)) (mRet C_NOUGHT))) (mVar 10) 1000000 0 ρ))))
  (g_reduced_4)
def g_reduced_6 : Mo Fl := sSeq (sFor (mRange range1D (mCons (mVar 1) (mNil))) (gSet 2) (g_reduced_5))
  (sRet (mTup (mCons (mVar 4) (mCons (mVar 5) (mNil)))))
def g_reduced_7 : Mo Fl := sSeq (sSet 1 (mIf (mTest (mOp (cmpD gtI) (mLenO 3) (mRet (.int 0)))) (mBuilt lenD (mCons (mIxO 3 (mRet (.int 0))) (mNil))) (mRet (.int 0))))
  (g_reduced_6)
def g_reduced : Mo Fl := sSeq (sPar3 3 4 5 (xConsO (mBlk [9] (mSeqS (mVar 0)) (lcBody [9] (gSet 9) (mRet true) (mList (mListOf (mVar 9))))) (xConsP (mList (mSized (mNil))) (xConsO (mSized (mNil)) (xNil)))))
  (g_reduced_7)
def F_reduced : Fn := guard 1 (runF 12 g_reduced)
theorem ok_reduced {P : Program} {w : World} {K : PySem.W.Frag} {mg : Str → Option Value} {base : Heap} (T : Say K mg) : FnE P w K mg base 5 "reduced" ["rows"] F_reduced := by
  obtain ⟨fd, F⟩ := T.d_reduced
  exact fn_ok F sc_reduced T.g_reduced (fun _ _ _ _ _ _ us hl => match us, hl with | [_], _ => rfl) fun cdv A outer s H E hr =>
    ss_cons (s_par3 (i := 3) (j := 4) (l := 5) rfl sc_reduced.nd (ex_consO ((lc_c (own := [("row", 9)]) (iv_seq (ev_var 0)) const_seq (blkOk_by (own := [("row", 9)]) (by kernel_rfl)) (fun _ _ _ _ _ => gv_name (i := 9) sc_reduced.nd) (fun _ _ _ _ _ => eif_nil) (fun _ _ _ _ _ => (en_list (T.m_list) (ev_var 9)).ev)).en rfl sc_reduced.nd) (ex_consP ((en_lst (ea_nil)).ev) (ex_consO (en_lst (ea_nil)) (ex_nil)))))
    (ss_cons (s_set (i := 1) (ev_if (et_cmp dop_gt (ev_lenO (i := 3) (T.m_len)) (ev_int) (nomark _)) (ev_callB dc_len (T.m_len) (by decide +kernel) (ea_cons (ev_ixO (i := 3) (ev_int)) (ea_nil))) (ev_int)) sc_reduced.nd)
    (ss_cons (s_for pass_own rfl (iv_range1 (T.m_range) (ea_cons (ev_var 1) (ea_nil))) const_range1 (gv_name (i := 2) sc_reduced.nd) (ss_cons ((lc_I (own := [("spot", 10), ("row", 9)]) (iv_enumO (T.m_enumerate) 3) (blkOk_by (own := [("spot", 10), ("row", 9)]) (by kernel_rfl)) (fun _ _ _ _ _ => gv_tup rfl (gvs_cons (gv_name (i := 10) sc_reduced.nd) (gvs_cons (gv_name (i := 9) sc_reduced.nd) (gvs_nil)))) (fun _ _ _ _ _ => eif_one (et_cmp (dop_ne hr.units) (ev_ix (ev_var 9) (ev_var 2)) (ev_glob T.c_NOUGHT) (nomark _))) (fun _ _ _ _ _ => ev_var 10)).set (i := 6) rfl sc_reduced.nd (sw_true rfl rfl rfl (by kernel_rfl)))
    (ss_one (s_if (et_cmp dop_gt (ev_callB dc_len (T.m_len) (by decide +kernel) (ea_cons (ev_var 6) (ea_nil))) (ev_int) (nomark _)) (ss_cons (s_set (i := 7) (ev_pop (i := 3) (ev_ix (ev_var 6) (ev_int))) sc_reduced.nd)
    (ss_cons (s_set (i := 8) (((lc_c (own := [("one", 11)]) (iv_seq (ev_var 7)) const_seq (blkOk_by (own := [("one", 11)]) (by kernel_rfl)) (fun _ _ _ _ _ => gv_name (i := 11) sc_reduced.nd) (fun _ _ _ _ _ => eif_nil) (fun _ _ _ _ _ => ev_call (ok_quotient T) (hr.mono (by decide)) passL (ea_cons (ev_var 11) (ea_cons (ev_ix (ev_var 7) (ev_var 2)) (ea_nil))))).en rfl sc_reduced.nd).ev) sc_reduced.nd)
    (ss_cons ((lc_I (own := [("row", 9)]) (iv_own 3) (blkOk_by (own := [("row", 9)]) (by kernel_rfl)) (fun _ _ _ _ _ => gv_name (i := 9) sc_reduced.nd) (fun _ _ _ _ _ => eif_nil) (fun _ _ _ _ _ => ev_call (ok_less_row T) (hr.mono (by decide)) passL (ea_cons (ev_var 9) (ea_cons (ev_var 8) (ea_cons (ev_ix (ev_var 9) (ev_var 2)) (ea_nil)))))).own (i := 3) rfl sc_reduced.nd (sw_true rfl rfl rfl (by kernel_rfl)))
    (ss_cons (s_set (i := 4) ((en_lst (ea_star (((lc_c (own := [("row", 9)]) (iv_seq (ev_var 4)) const_seq (blkOk_by (own := [("row", 9)]) (by kernel_rfl)) (fun _ _ _ _ _ => gv_name (i := 9) sc_reduced.nd) (fun _ _ _ _ _ => eif_nil) (fun _ _ _ _ _ => ev_call (ok_less_row T) (hr.mono (by decide)) passL (ea_cons (ev_var 9) (ea_cons (ev_var 8) (ea_cons (ev_ix (ev_var 9) (ev_var 2)) (ea_nil)))))).en rfl sc_reduced.nd).ev) (ea_cons (ev_var 8) (ea_nil)))).ev) sc_reduced.nd)
    (ss_one (s_app (i := 5) (ea_cons (ev_var 2) (ea_nil)))))))) (ss_nil)))))
    (ss_one (s_ret (ev_tup (ea_cons (ev_var 4) (ea_cons (ev_var 5) (ea_nil))))))))
theorem sc_killed : FnScope ["rows", "size", "spanning", "at", "found", "leads", "fresh", "one", "row", "lead", "spot"] ["rows", "size"] (defScope s_killed) := ⟨rfl, rfl, rfl, by decide +kernel, rfl, by decide +kernel, by decide +kernel⟩
def g_killed_1 : Mo Fl := sPut 6 (mVar 9) (mCall F_less_by (mCons (mRet C_NOUGHT) (mCons (mOp ixD (mVar 8) (mVar 3)) (mNil))))
def g_killed_2 : Mo Fl := sSeq (sFor (mZipStrict (mCons (mVar 4) (mCons (mVar 5) (mNil)))) (gTupD 2 (gConsD (gSet 8) (gConsD (gSet 9) (gNilD)))) (g_killed_1))
  (sChg 2 (mCons (mVar 6) (mNil)) appC)
def g_killed_3 : Mo Fl := sSeq (sOwn 6 (mBlk [10] (mRange range1D (mCons (mVar 1) (mNil))) (lcBody [10] (gSet 10) (mRet true) (mIf (mTest (mOp eqD (mVar 10) (mVar 3))) (mRet C_ONE) (mRet C_NOUGHT)))))
  (g_killed_2)
def g_killed_4 : Mo Fl := sSeq (sFor (mSeqS (mList (mBlk [7] (mRange range1D (mCons (mVar 1) (mNil))) (lcBody [7] (gSet 7) (mTest (mOp notInD (mVar 7) (mVar 5))) (mVar 7))))) (gSet 3) (g_killed_3))
  (sRet (mVar 2))
def g_killed : Mo Fl := sSeq (sAsg (gTupD 2 (gConsD (gSet 4) (gConsD (gSet 5) (gNilD)))) (mCall F_reduced (mCons (mVar 0) (mNil))))
  (sSeq (sOwn 2 (mSized (mNil)))
  (g_killed_4))
def F_killed : Fn := guard 2 (runF 11 g_killed)
theorem ok_killed {P : Program} {w : World} {K : PySem.W.Frag} {mg : Str → Option Value} {base : Heap} (T : Say K mg) : FnE P w K mg base 6 "killed" ["rows", "size"] F_killed := by
  obtain ⟨fd, F⟩ := T.d_killed
  exact fn_ok F sc_killed T.g_killed (fun _ _ _ _ _ _ us hl => match us, hl with | [_, _], _ => rfl) fun cdv A outer s H E hr =>
    ss_cons (s_asg (ev_call (ok_reduced T) (hr.mono (by decide)) pass_cx (ea_cons (ev_var 0) (ea_nil))) (gv_tup rfl (gvs_cons (gv_name (i := 4) sc_killed.nd) (gvs_cons (gv_name (i := 5) sc_killed.nd) (gvs_nil)))))
    (ss_cons (s_own (i := 2) (en_lst (ea_nil)) sc_killed.nd)
    (ss_cons (s_for pass_own rfl (iv_seq (((lc_c (own := [("one", 7)]) (iv_range1 (T.m_range) (ea_cons (ev_var 1) (ea_nil))) const_range1 (blkOk_by (own := [("one", 7)]) (by kernel_rfl)) (fun _ _ _ _ _ => gv_name (i := 7) sc_killed.nd) (fun _ _ _ _ _ => eif_one (et_cmp (dop_notIn (hu65 hr)) (ev_var 7) (ev_var 5) (by rfl))) (fun _ _ _ _ _ => ev_var 7)).en rfl sc_killed.nd).ev)) const_seq (gv_name (i := 3) sc_killed.nd) (ss_cons ((lc_c (own := [("spot", 10)]) (iv_range1 (T.m_range) (ea_cons (ev_var 1) (ea_nil))) const_range1 (blkOk_by (own := [("spot", 10)]) (by kernel_rfl)) (fun _ _ _ _ _ => gv_name (i := 10) sc_killed.nd) (fun _ _ _ _ _ => eif_nil) (fun _ _ _ _ _ => ev_if (et_cmp (dop_eq hr.units) (ev_var 10) (ev_var 3) (nomark _)) (ev_glob T.c_ONE) (ev_glob T.c_NOUGHT))).own (i := 6) rfl sc_killed.nd (sw_true rfl rfl rfl (by kernel_rfl)))
    (ss_cons (s_for pass_own rfl (iv_zipStrict (T.m_zip) (ea_cons (ev_var 4) (ea_cons (ev_var 5) (ea_nil)))) const_zipStrict (gv_tup rfl (gvs_cons (gv_name (i := 8) sc_killed.nd) (gvs_cons (gv_name (i := 9) sc_killed.nd) (gvs_nil)))) (ss_one (s_put (i := 6) (ev_call (ok_less_by T) (hr.mono (by decide)) pass_cx (ea_cons (ev_glob T.c_NOUGHT) (ea_cons (ev_ix (ev_var 8) (ev_var 3)) (ea_nil)))) (ev_var 9))))
    (ss_one (s_app (i := 2) (ea_cons (ev_var 6) (ea_nil)))))))
    (ss_one (s_ret (ev_var 2)))))
theorem sc_turned : FnScope ["rows", "size", "at", "row"] ["rows", "size"] (defScope s_turned) := ⟨rfl, rfl, rfl, by decide +kernel, rfl, by decide +kernel, by decide +kernel⟩
def g_turned : Mo Fl := sRet (mList (mBlk [2] (mRange range1D (mCons (mVar 1) (mNil))) (lcBody [2] (gSet 2) (mRet true) (mList (mBlk [3] (mSeqS (mVar 0)) (lcBody [3] (gSet 3) (mRet true) (mOp ixD (mVar 3) (mVar 2))))))))
def F_turned : Fn := guard 2 (runF 4 g_turned)
theorem ok_turned {P : Program} {w : World} {K : PySem.W.Frag} {mg : Str → Option Value} {base : Heap} (T : Say K mg) : FnE P w K mg base 1 "turned" ["rows", "size"] F_turned := by
  obtain ⟨fd, F⟩ := T.d_turned
  exact fn_ok F sc_turned T.g_turned (fun _ _ _ _ _ _ us hl => match us, hl with | [_, _], _ => rfl) fun cdv A outer s H E hr =>
    ss_one (s_ret (((lc_c (own := [("at", 2)]) (iv_range1 (T.m_range) (ea_cons (ev_var 1) (ea_nil))) const_range1 (blkOk_by (own := [("at", 2)]) (by kernel_rfl)) (fun _ _ _ _ _ => gv_name (i := 2) sc_turned.nd) (fun _ _ _ _ _ => eif_nil) (fun _ _ _ _ _ => ((lc_c (own := [("row", 3)]) (iv_seq (ev_var 0)) const_seq (blkOk_by (own := [("row", 3)]) (by kernel_rfl)) (fun _ _ _ _ _ => gv_name (i := 3) sc_turned.nd) (fun _ _ _ _ _ => eif_nil) (fun _ _ _ _ _ => ev_ix (ev_var 3) (ev_var 2))).en rfl sc_turned.nd).ev)).en rfl sc_turned.nd).ev))
theorem sc_weights_of_lot : FnScope ["rows", "lot", "size", "some", "found", "told", "whole", "at", "one", "row"] ["rows", "lot", "size"] (defScope s_weights_of_lot) := ⟨rfl, rfl, rfl, by decide +kernel, rfl, by decide +kernel, by decide +kernel⟩
def g_weights_of_lot_1 : Mo Fl := sPut 5 (mVar 7) (mCall F_quotient (mCons (mVar 8) (mCons (mVar 6) (mNil))))
def g_weights_of_lot_2 : Mo Fl := sSeq (sFor (mZipStrict (mCons (mVar 1) (mCons (mOp ixD (mVar 4) (mRet (.int 0))) (mNil)))) (gTupD 2 (gConsD (gSet 7) (gConsD (gSet 8) (gNilD)))) (g_weights_of_lot_1))
  (sRet (mVar 5))
def g_weights_of_lot_3 : Mo Fl := sSeq (sSet 6 (mCall F_summed (mCons (mList (mBlk [8] (mSeqS (mOp ixD (mVar 4) (mRet (.int 0)))) (lcBody [8] (gSet 8) (mRet true) (mCall F_size_of (mCons (mVar 8) (mNil)))))) (mNil))))
  (g_weights_of_lot_2)
def g_weights_of_lot_4 : Mo Fl := sSeq (sOwn 5 (mBlk [9] (mSeqS (mVar 0)) (lcBody [9] (gSet 9) (mRet true) (mRet C_NOUGHT))))
  (g_weights_of_lot_3)
def g_weights_of_lot_5 : Mo Fl := sSeq (sIf (mOr (mTest (mOp neD (mBuilt lenD (mCons (mVar 4) (mNil))) (mRet (.int 1)))) (mTest (mOp inD (mRet C_NOUGHT) (mOp ixD (mVar 4) (mRet (.int 0)))))) (sRet (mRet .none)) (sNext))
  (g_weights_of_lot_4)
def g_weights_of_lot_6 : Mo Fl := sSeq (sSet 4 (mCall F_killed (mCons (mCall F_turned (mCons (mVar 3) (mCons (mVar 2) (mNil)))) (mCons (mBuilt lenD (mCons (mVar 1) (mNil))) (mNil)))))
  (g_weights_of_lot_5)
def g_weights_of_lot : Mo Fl := sSeq (sSet 3 (mList (mBlk [7] (mSeqS (mVar 1)) (lcBody [7] (gSet 7) (mRet true) (mOp ixD (mVar 0) (mVar 7))))))
  (g_weights_of_lot_6)
def F_weights_of_lot : Fn := guard 3 (runF 10 g_weights_of_lot)
theorem ok_weights_of_lot {P : Program} {w : World} {K : PySem.W.Frag} {mg : Str → Option Value} {base : Heap} (T : Say K mg) : FnE P w K mg base 7 "weights_of_lot" ["rows", "lot", "size"] F_weights_of_lot := by
  obtain ⟨fd, F⟩ := T.d_weights_of_lot
  exact fn_ok F sc_weights_of_lot T.g_weights_of_lot (fun _ _ _ _ _ _ us hl => match us, hl with | [_, _, _], _ => rfl) fun cdv A outer s H E hr =>
    ss_cons ((lc_c (own := [("at", 7)]) (iv_seq (ev_var 1)) const_seq (blkOk_by (own := [("at", 7)]) (by kernel_rfl)) (fun _ _ _ _ _ => gv_name (i := 7) sc_weights_of_lot.nd) (fun _ _ _ _ _ => eif_nil) (fun _ _ _ _ _ => ev_ix (ev_var 0) (ev_var 7))).set (i := 3) rfl sc_weights_of_lot.nd (sw_true rfl rfl rfl (by kernel_rfl)))
    (ss_cons (s_set (i := 4) (ev_call (ok_killed T) (hr.mono (by decide)) pass_cx (ea_cons (ev_call (ok_turned T) (hr.mono (by decide)) pass_cx (ea_cons (ev_var 3) (ea_cons (ev_var 2) (ea_nil)))) (ea_cons (ev_callB dc_len (T.m_len) (by decide +kernel) (ea_cons (ev_var 1) (ea_nil))) (ea_nil)))) sc_weights_of_lot.nd)
    (ss_cons (s_if ((ew_or (et_cmp (dop_ne hr.units) (ev_callB dc_len (T.m_len) (by decide +kernel) (ea_cons (ev_var 4) (ea_nil))) (ev_int) (nomark _)) (ew_or1 (et_cmp (dop_in (hu65 hr)) (ev_glob T.c_NOUGHT) (ev_ix (ev_var 4) (ev_int)) (by rfl)))).et) (ss_one (s_ret (ev_non))) (ss_nil))
    (ss_cons ((lc_c (own := [("row", 9)]) (iv_seq (ev_var 0)) const_seq (blkOk_by (own := [("row", 9)]) (by kernel_rfl)) (fun _ _ _ _ _ => gv_name (i := 9) sc_weights_of_lot.nd) (fun _ _ _ _ _ => eif_nil) (fun _ _ _ _ _ => ev_glob T.c_NOUGHT)).own (i := 5) rfl sc_weights_of_lot.nd (sw_true rfl rfl rfl (by kernel_rfl)))
    (ss_cons (s_set (i := 6) (ev_call (ok_summed T) (hr.mono (by decide)) pass_cx (ea_cons (((lc_c (own := [("one", 8)]) (iv_seq (ev_ix (ev_var 4) (ev_int))) const_seq (blkOk_by (own := [("one", 8)]) (by kernel_rfl)) (fun _ _ _ _ _ => gv_name (i := 8) sc_weights_of_lot.nd) (fun _ _ _ _ _ => eif_nil) (fun _ _ _ _ _ => ev_call (ok_size_of T) (hr.mono (by decide)) passL (ea_cons (ev_var 8) (ea_nil)))).en rfl sc_weights_of_lot.nd).ev) (ea_nil))) sc_weights_of_lot.nd)
    (ss_cons (s_for pass_own rfl (iv_zipStrict (T.m_zip) (ea_cons (ev_var 1) (ea_cons (ev_ix (ev_var 4) (ev_int)) (ea_nil)))) const_zipStrict (gv_tup rfl (gvs_cons (gv_name (i := 7) sc_weights_of_lot.nd) (gvs_cons (gv_name (i := 8) sc_weights_of_lot.nd) (gvs_nil)))) (ss_one (s_put (i := 5) (ev_call (ok_quotient T) (hr.mono (by decide)) pass_cx (ea_cons (ev_var 8) (ea_cons (ev_var 6) (ea_nil)))) (ev_var 7))))
    (ss_one (s_ret (ev_var 5))))))))
theorem sc_best_weighing : FnScope ["rows", "heights", "size", "lot", "best", "found", "told", "worth", "one"] ["rows", "heights", "size"] (defScope s_best_weighing) := ⟨rfl, rfl, rfl, by decide +kernel, rfl, by decide +kernel, by decide +kernel⟩
def g_best_weighing_1 : Mo Fl := sIf (mTest (mCall F_is_less (mCons (mVar 4) (mCons (mVar 7) (mNil))))) (sPar2 4 5 (xConsP (mVar 7) (xConsP (mVar 6) (xNil)))) (sNext)
def g_best_weighing_2 : Mo Fl := sSeq (sIf (mTest (mOp (cmpD ltI) (mCall F_sign_of (mCons (mVar 7) (mNil))) (mRet (.int 0)))) (sPar2 6 7 (xConsP (mList (mBlk [8] (mSeqS (mVar 6)) (lcBody [8] (gSet 8) (mRet true) (mCall F_less_by (mCons (mRet C_NOUGHT) (mCons (mVar 8) (mNil))))))) (xConsP (mCall F_size_of (mCons (mVar 7) (mNil))) (xNil)))) (sNext))
  (g_best_weighing_1)
def g_best_weighing_3 : Mo Fl := sIf (mTest (mOp isNotD (mVar 6) (mRet .none))) (sSeq (sSet 7 (mCall F_together (mCons (mVar 6) (mCons (mVar 1) (mNil)))))
  (g_best_weighing_2)) (sNext)
def g_best_weighing_4 : Mo Fl := sSeq (sSet 6 (mCall F_weights_of_lot (mCons (mVar 0) (mCons (mVar 3) (mCons (mVar 2) (mNil))))))
  (g_best_weighing_3)
def g_best_weighing_5 : Mo Fl := sSeq (sFor (mSeqS (mSlice (mCall F_lots_of (mCons (mBuilt lenD (mCons (mVar 0) (mNil))) (mNil))) (mPart (mRet (.int 1))) (mNoPart))) (gSet 3) (g_best_weighing_4))
  (sRet (mTup (mCons (mVar 4) (mCons (mVar 5) (mNil)))))
def g_best_weighing : Mo Fl := sSeq (sPar2 4 5 (xConsP (mRet C_NOUGHT) (xConsP (mRet .none) (xNil))))
  (g_best_weighing_5)
def F_best_weighing : Fn := guard 3 (runF 9 g_best_weighing)
theorem ok_best_weighing {P : Program} {w : World} {K : PySem.W.Frag} {mg : Str → Option Value} {base : Heap} (T : Say K mg) : FnE P w K mg base 8 "best_weighing" ["rows", "heights", "size"] F_best_weighing := by
  obtain ⟨fd, F⟩ := T.d_best_weighing
  exact fn_ok F sc_best_weighing T.g_best_weighing (fun _ _ _ _ _ _ us hl => match us, hl with | [_, _, _], _ => rfl) fun cdv A outer s H E hr =>
    ss_cons (s_par2 (i := 4) (j := 5) rfl sc_best_weighing.nd (ex_consP (ev_glob T.c_NOUGHT) (ex_consP (ev_non) (ex_nil))))
    (ss_cons (s_for pass_own rfl (iv_seq (ev_slice (ev_call (ok_lots_of T) (hr.mono (by decide)) pass_cx (ea_cons (ev_callB dc_len (T.m_len) (by decide +kernel) (ea_cons (ev_var 0) (ea_nil))) (ea_nil))) (eo_some (ev_int)) (eo_none))) const_seq (gv_name (i := 3) sc_best_weighing.nd) (ss_cons (s_set (i := 6) (ev_call (ok_weights_of_lot T) (hr.mono (by decide)) pass_cx (ea_cons (ev_var 0) (ea_cons (ev_var 3) (ea_cons (ev_var 2) (ea_nil))))) sc_best_weighing.nd)
    (ss_one (s_if (et_cmp dop_isNot (ev_var 6) (ev_non) (nomark _)) (ss_cons (s_set (i := 7) (ev_call (ok_together T) (hr.mono (by decide)) pass_cx (ea_cons (ev_var 6) (ea_cons (ev_var 1) (ea_nil)))) sc_best_weighing.nd)
    (ss_cons (s_if (et_cmp dop_lt (ev_call (ok_sign_of T) (hr.mono (by decide)) pass_cx (ea_cons (ev_var 7) (ea_nil))) (ev_int) (nomark _)) (ss_one (s_par2 (i := 6) (j := 7) rfl sc_best_weighing.nd (ex_consP (((lc_c (own := [("one", 8)]) (iv_seq (ev_var 6)) const_seq (blkOk_by (own := [("one", 8)]) (by kernel_rfl)) (fun _ _ _ _ _ => gv_name (i := 8) sc_best_weighing.nd) (fun _ _ _ _ _ => eif_nil) (fun _ _ _ _ _ => ev_call (ok_less_by T) (hr.mono (by decide)) passL (ea_cons (ev_glob T.c_NOUGHT) (ea_cons (ev_var 8) (ea_nil))))).en rfl sc_best_weighing.nd).ev) (ex_consP (ev_call (ok_size_of T) (hr.mono (by decide)) pass_cx (ea_cons (ev_var 7) (ea_nil))) (ex_nil))))) (ss_nil))
    (ss_one (s_if (et_val (ev_call (ok_is_less T) (hr.mono (by decide)) pass_cx (ea_cons (ev_var 4) (ea_cons (ev_var 7) (ea_nil))))) (ss_one (s_par2 (i := 4) (j := 5) rfl sc_best_weighing.nd (ex_consP (ev_var 7) (ex_consP (ev_var 6) (ex_nil))))) (ss_nil))))) (ss_nil)))))
    (ss_one (s_ret (ev_tup (ea_cons (ev_var 4) (ea_cons (ev_var 5) (ea_nil)))))))
theorem sc_is_integer : FnScope ["value"] ["value"] (defScope s_is_integer) := ⟨rfl, rfl, rfl, by decide +kernel, rfl, by decide +kernel, by decide +kernel⟩
def g_is_integer : Mo Fl := sRet (mAndV (mIsi isIntT (mVar 0)) (mNotV (mIsi isBoolT (mVar 0))))
def F_is_integer : Fn := guard 1 (runF 1 g_is_integer)
theorem ok_is_integer {P : Program} {w : World} {K : PySem.W.Frag} {mg : Str → Option Value} {base : Heap} (T : Say K mg) : FnE P w K mg base 1 "is_integer" ["value"] F_is_integer := by
  obtain ⟨fd, F⟩ := T.d_is_integer
  exact fn_ok F sc_is_integer T.g_is_integer (fun _ _ _ _ _ _ us hl => match us, hl with | [_], _ => rfl) fun cdv A outer s H E hr =>
    ss_one (s_ret (ev_and (ev_isi tab_int (ev_var 0) (T.m_isinstance) (T.m_int) (by decide +kernel)) (ev_one (ev_not (ev_isi tab_bool (ev_var 0) (T.m_isinstance) (T.m_bool) (by decide +kernel))))))
theorem sc_is_value : FnScope ["value"] ["value"] (defScope s_is_value) := ⟨rfl, rfl, rfl, by decide +kernel, rfl, by decide +kernel, by decide +kernel⟩
def g_is_value_1 : Mo Fl := sRet (mAndV (mOp (cmpD gtI) (mOp ixD (mVar 0) (mRet (.int 1))) (mRet (.int 0))) (mOp eqD (mCall F_common_part (mCons (mOp ixD (mVar 0) (mRet (.int 0))) (mCons (mOp ixD (mVar 0) (mRet (.int 1))) (mNil)))) (mRet (.int 1))))
def g_is_value_2 : Mo Fl := sSeq (sIf (mOr (mNot (mTest (mIsi isTupT (mVar 0)))) (mOr (mTest (mOp neD (mBuilt lenD (mCons (mVar 0) (mNil))) (mRet C_PAIR_values))) (mOr (mNot (mTest (mCall F_is_integer (mCons (mOp ixD (mVar 0) (mRet (.int 0))) (mNil))))) (mNot (mTest (mCall F_is_integer (mCons (mOp ixD (mVar 0) (mRet (.int 1))) (mNil)))))))) (sRet (mRet (.bool false))) (sNext))
  (g_is_value_1)
def g_is_value : Mo Fl := sSeq (sIf (mTest (mCall F_is_integer (mCons (mVar 0) (mNil)))) (sRet (mRet (.bool true))) (sNext))
  (g_is_value_2)
def F_is_value : Fn := guard 1 (runF 1 g_is_value)
theorem ok_is_value {P : Program} {w : World} {K : PySem.W.Frag} {mg : Str → Option Value} {base : Heap} (T : Say K mg) : FnE P w K mg base 2 "is_value" ["value"] F_is_value := by
  obtain ⟨fd, F⟩ := T.d_is_value
  exact fn_ok F sc_is_value T.g_is_value (fun _ _ _ _ _ _ us hl => match us, hl with | [_], _ => rfl) fun cdv A outer s H E hr =>
    ss_cons (s_if (et_val (ev_call (ok_is_integer T) (hr.mono (by decide)) pass_cx (ea_cons (ev_var 0) (ea_nil)))) (ss_one (s_ret (ev_bl))) (ss_nil))
    (ss_cons (s_if ((ew_or (et_not (et_val (ev_isi tab_tup (ev_var 0) (T.m_isinstance) (T.m_tuple) (by decide +kernel)))) (ew_or (et_cmp (dop_ne hr.units) (ev_callB dc_len (T.m_len) (by decide +kernel) (ea_cons (ev_var 0) (ea_nil))) (ev_glob T.c_PAIR_values) (nomark _)) (ew_or (et_not (et_val (ev_call (ok_is_integer T) (hr.mono (by decide)) pass_cx (ea_cons (ev_ix (ev_var 0) (ev_int)) (ea_nil))))) (ew_or1 (et_not (et_val (ev_call (ok_is_integer T) (hr.mono (by decide)) pass_cx (ea_cons (ev_ix (ev_var 0) (ev_int)) (ea_nil))))))))).et) (ss_one (s_ret (ev_bl))) (ss_nil))
    (ss_one (s_ret (ev_and (ev_cmp dop_gt (ev_ix (ev_var 0) (ev_int)) (ev_int) (nomark _)) (ev_one (ev_cmp (dop_eq hr.units) (ev_call (ok_common_part T) (hr.mono (by decide)) pass_cx (ea_cons (ev_ix (ev_var 0) (ev_int)) (ea_cons (ev_ix (ev_var 0) (ev_int)) (ea_nil)))) (ev_int) (nomark _)))))))
theorem sc_value_of : FnScope ["value"] ["value"] (defScope s_value_of) := ⟨rfl, rfl, rfl, by decide +kernel, rfl, by decide +kernel, by decide +kernel⟩
def g_value_of : Mo Fl := sRet (mIf (mTest (mCall F_is_integer (mCons (mVar 0) (mNil)))) (mTup (mCons (mVar 0) (mCons (mRet (.int 1)) (mNil)))) (mVar 0))
def F_value_of : Fn := guard 1 (runF 1 g_value_of)
theorem ok_value_of {P : Program} {w : World} {K : PySem.W.Frag} {mg : Str → Option Value} {base : Heap} (T : Say K mg) : FnE P w K mg base 2 "value_of" ["value"] F_value_of := by
  obtain ⟨fd, F⟩ := T.d_value_of
  exact fn_ok F sc_value_of T.g_value_of (fun _ _ _ _ _ _ us hl => match us, hl with | [_], _ => rfl) fun cdv A outer s H E hr =>
    ss_one (s_ret (ev_if (et_val (ev_call (ok_is_integer T) (hr.mono (by decide)) pass_cx (ea_cons (ev_var 0) (ea_nil)))) (ev_tup (ea_cons (ev_var 0) (ea_cons (ev_int) (ea_nil)))) (ev_var 0)))
theorem sc_is_inside : FnScope ["marks", "time", "spot"] ["marks", "time"] (defScope s_is_inside) := ⟨rfl, rfl, rfl, by decide +kernel, rfl, by decide +kernel, by decide +kernel⟩
def g_is_inside_1 : Mo Fl := sRet (mAndV (mNotV (mCall F_is_less (mCons (mVar 2) (mCons (mCall F_value_of (mCons (mOp ixD (mVar 0) (mRet (.int 0))) (mNil))) (mNil))))) (mNotV (mCall F_is_less (mCons (mCall F_value_of (mCons (mOp ixD (mVar 0) (mUn negD (mRet (.int 1)))) (mNil))) (mCons (mVar 2) (mNil))))))
def g_is_inside_2 : Mo Fl := sSeq (sSet 2 (mCall F_value_of (mCons (mVar 1) (mNil))))
  (g_is_inside_1)
def g_is_inside : Mo Fl := sSeq (sIf (mNot (mTest (mCall F_is_value (mCons (mVar 1) (mNil))))) (sRet (mRet (.bool false))) (sNext))
  (g_is_inside_2)
def F_is_inside : Fn := guard 2 (runF 3 g_is_inside)
theorem ok_is_inside {P : Program} {w : World} {K : PySem.W.Frag} {mg : Str → Option Value} {base : Heap} (T : Say K mg) : FnE P w K mg base 3 "is_inside" ["marks", "time"] F_is_inside := by
  obtain ⟨fd, F⟩ := T.d_is_inside
  exact fn_ok F sc_is_inside T.g_is_inside (fun _ _ _ _ _ _ us hl => match us, hl with | [_, _], _ => rfl) fun cdv A outer s H E hr =>
    ss_cons (s_if (et_not (et_val (ev_call (ok_is_value T) (hr.mono (by decide)) pass_cx (ea_cons (ev_var 1) (ea_nil))))) (ss_one (s_ret (ev_bl))) (ss_nil))
    (ss_cons (s_set (i := 2) (ev_call (ok_value_of T) (hr.mono (by decide)) pass_cx (ea_cons (ev_var 1) (ea_nil))) sc_is_inside.nd)
    (ss_one (s_ret (ev_and (ev_not (ev_call (ok_is_less T) (hr.mono (by decide)) pass_cx (ea_cons (ev_var 2) (ea_cons (ev_call (ok_value_of T) (hr.mono (by decide)) pass_cx (ea_cons (ev_ix (ev_var 0) (ev_int)) (ea_nil))) (ea_nil))))) (ev_one (ev_not (ev_call (ok_is_less T) (hr.mono (by decide)) pass_cx (ea_cons (ev_call (ok_value_of T) (hr.mono (by decide)) pass_cx (ea_cons (ev_ix (ev_var 0) (ev_neg (ev_int))) (ea_nil))) (ea_cons (ev_var 2) (ea_nil))))))))))
theorem sc_is_next : FnScope ["marks", "found", "time"] ["marks", "found", "time"] (defScope s_is_next) := ⟨rfl, rfl, rfl, by decide +kernel, rfl, by decide +kernel, by decide +kernel⟩
def g_is_next : Mo Fl := sRet (mAndV (mCall F_is_inside (mCons (mVar 0) (mCons (mVar 2) (mNil)))) (mOrV (mOp eqD (mBuilt lenD (mCons (mVar 1) (mNil))) (mRet (.int 0))) (mCall F_is_less (mCons (mOp ixD (mVar 1) (mUn negD (mRet (.int 1)))) (mCons (mCall F_value_of (mCons (mVar 2) (mNil))) (mNil))))))
def F_is_next : Fn := guard 3 (runF 3 g_is_next)
theorem ok_is_next {P : Program} {w : World} {K : PySem.W.Frag} {mg : Str → Option Value} {base : Heap} (T : Say K mg) : FnE P w K mg base 4 "is_next" ["marks", "found", "time"] F_is_next := by
  obtain ⟨fd, F⟩ := T.d_is_next
  exact fn_ok F sc_is_next T.g_is_next (fun _ _ _ _ _ _ us hl => match us, hl with | [_, _, _], _ => rfl) fun cdv A outer s H E hr =>
    ss_one (s_ret (ev_and (ev_call (ok_is_inside T) (hr.mono (by decide)) pass_cx (ea_cons (ev_var 0) (ea_cons (ev_var 2) (ea_nil)))) (ev_one (ev_or (ev_cmp (dop_eq hr.units) (ev_callB dc_len (T.m_len) (by decide +kernel) (ea_cons (ev_var 1) (ea_nil))) (ev_int) (nomark _)) (ev_one (ev_call (ok_is_less T) (hr.mono (by decide)) pass_cx (ea_cons (ev_ix (ev_var 1) (ev_neg (ev_int))) (ea_cons (ev_call (ok_value_of T) (hr.mono (by decide)) pass_cx (ea_cons (ev_var 2) (ea_nil))) (ea_nil)))))))))
theorem sc_is_sequence : FnScope ["value"] ["value"] (defScope s_is_sequence) := ⟨rfl, rfl, rfl, by decide +kernel, rfl, by decide +kernel, by decide +kernel⟩
def g_is_sequence : Mo Fl := sRet (mIsi isSeqT (mVar 0))
def F_is_sequence : Fn := guard 1 (runF 1 g_is_sequence)
theorem ok_is_sequence {P : Program} {w : World} {K : PySem.W.Frag} {mg : Str → Option Value} {base : Heap} (T : Say K mg) : FnE P w K mg base 1 "is_sequence" ["value"] F_is_sequence := by
  obtain ⟨fd, F⟩ := T.d_is_sequence
  exact fn_ok F sc_is_sequence T.g_is_sequence (fun _ _ _ _ _ _ us hl => match us, hl with | [_], _ => rfl) fun cdv A outer s H E hr =>
    ss_one (s_ret (ev_isiLT (ev_var 0) (T.m_isinstance) (T.m_list) (T.m_tuple)))
theorem sc_need_points : FnScope ["marks", "points", "spots", "heights", "at", "point"] ["marks", "points"] (defScope s_need_points) := ⟨rfl, rfl, rfl, by decide +kernel, rfl, by decide +kernel, by decide +kernel⟩
def g_need_points_1 : Mo Fl := sChg 3 (mCons (mCall F_value_of (mCons (mOp ixD (mVar 5) (mRet (.int 1))) (mNil))) (mNil)) appC
def g_need_points_2 : Mo Fl := sSeq (sChg 2 (mCons (mCall F_value_of (mCons (mOp ixD (mVar 5) (mRet (.int 0))) (mNil))) (mNil)) appC)
  (g_need_points_1)
def g_need_points_3 : Mo Fl := sSeq (sIf (mNot (mTest (mLend F_is_next (pCons (pVar 0) (pCons (pVar 2) (pCons (pOp ixD (pVar 5) (fun _ => some (.int 0))) (pNil))))))) (sNever) (sNext))
  (g_need_points_2)
def g_need_points_4 : Mo Fl := sSeq (sIf (mOr (mNot (mTest (mIsi isTupT (mVar 5)))) (mOr (mTest (mOp neD (mBuilt lenD (mCons (mVar 5) (mNil))) (mRet C_PAIR_nearest))) (mNot (mTest (mCall F_is_value (mCons (mOp ixD (mVar 5) (mRet (.int 1))) (mNil))))))) (sNever) (sNext))
  (g_need_points_3)
def g_need_points_5 : Mo Fl := sSeq (sFor (mEnum (mVar 1)) (gTupD 2 (gConsD (gSet 4) (gConsD (gSet 5) (gNilD)))) (g_need_points_4))
  (sRet (mTup (mCons (mVar 2) (mCons (mVar 3) (mNil)))))
def g_need_points_6 : Mo Fl := sSeq (sPar2 2 3 (xConsO (mSized (mNil)) (xConsO (mSized (mNil)) (xNil))))
  (g_need_points_5)
def g_need_points : Mo Fl := sSeq (sIf (mOr (mNot (mTest (mCall F_is_sequence (mCons (mVar 1) (mNil))))) (mTest (mOp eqD (mBuilt lenD (mCons (mVar 1) (mNil))) (mRet (.int 0))))) (sNever) (sNext))
  (g_need_points_6)
def F_need_points : Fn := guard 2 (runF 6 g_need_points)
theorem ok_need_points {P : Program} {w : World} {K : PySem.W.Frag} {mg : Str → Option Value} {base : Heap} (T : Say K mg) : FnE P w K mg base 5 "need_points" ["marks", "points"] F_need_points := by
  obtain ⟨fd, F⟩ := T.d_need_points
  exact fn_ok F sc_need_points T.g_need_points (fun _ _ _ _ _ _ us hl => match us, hl with | [_, _], _ => rfl) fun cdv A outer s H E hr =>
    ss_cons (s_if ((ew_or (et_not (et_val (ev_call (ok_is_sequence T) (hr.mono (by decide)) pass_cx (ea_cons (ev_var 1) (ea_nil))))) (ew_or1 (et_cmp (dop_eq hr.units) (ev_callB dc_len (T.m_len) (by decide +kernel) (ea_cons (ev_var 1) (ea_nil))) (ev_int) (nomark _)))).et) (ss_one (s_never)) (ss_nil))
    (ss_cons (s_par2 (i := 2) (j := 3) rfl sc_need_points.nd (ex_consO (en_lst (ea_nil)) (ex_consO (en_lst (ea_nil)) (ex_nil))))
    (ss_cons (s_for pass_own rfl (iv_enum (T.m_enumerate) (ev_var 1)) const_enum (gv_tup rfl (gvs_cons (gv_name (i := 4) sc_need_points.nd) (gvs_cons (gv_name (i := 5) sc_need_points.nd) (gvs_nil)))) (ss_cons (s_if ((ew_or (et_not (et_val (ev_isi tab_tup (ev_var 5) (T.m_isinstance) (T.m_tuple) (by decide +kernel)))) (ew_or (et_cmp (dop_ne hr.units) (ev_callB dc_len (T.m_len) (by decide +kernel) (ea_cons (ev_var 5) (ea_nil))) (ev_glob T.c_PAIR_nearest) (nomark _)) (ew_or1 (et_not (et_val (ev_call (ok_is_value T) (hr.mono (by decide)) pass_cx (ea_cons (ev_ix (ev_var 5) (ev_int)) (ea_nil)))))))).et) (ss_one (s_never)) (ss_nil))
    (ss_cons (s_if (et_not (et_val (ev_lend (ok_is_next T) (hr.mono (by decide)) pass_cx (eap_cons (evp_var 0) (eap_cons (evp_var 2) (eap_cons (evp_ix (evp_var 5) (evp_int)) (eap_nil))))))) (ss_one (s_never)) (ss_nil))
    (ss_cons (s_app (i := 2) (ea_cons (ev_call (ok_value_of T) (hr.mono (by decide)) pass_cx (ea_cons (ev_ix (ev_var 5) (ev_int)) (ea_nil))) (ea_nil)))
    (ss_one (s_app (i := 3) (ea_cons (ev_call (ok_value_of T) (hr.mono (by decide)) pass_cx (ea_cons (ev_ix (ev_var 5) (ev_int)) (ea_nil))) (ea_nil))))))))
    (ss_one (s_ret (ev_tup (ea_cons (ev_var 2) (ea_cons (ev_var 3) (ea_nil))))))))
theorem sc_size_for : FnScope ["degree", "marks"] ["degree", "marks"] (defScope s_size_for) := ⟨rfl, rfl, rfl, by decide +kernel, rfl, by decide +kernel, by decide +kernel⟩
def g_size_for : Mo Fl := sRet (mOp subD (mOp addD (mVar 0) (mBuilt lenD (mCons (mVar 1) (mNil)))) (mRet (.int 1)))
def F_size_for : Fn := guard 2 (runF 2 g_size_for)
theorem ok_size_for {P : Program} {w : World} {K : PySem.W.Frag} {mg : Str → Option Value} {base : Heap} (T : Say K mg) : FnE P w K mg base 1 "size_for" ["degree", "marks"] F_size_for := by
  obtain ⟨fd, F⟩ := T.d_size_for
  exact fn_ok F sc_size_for T.g_size_for (fun _ _ _ _ _ _ us hl => match us, hl with | [_, _], _ => rfl) fun cdv A outer s H E hr =>
    ss_one (s_ret (ev_op dop_sub (ev_op dop_add (ev_var 0) (ev_callB dc_len (T.m_len) (by decide +kernel) (ea_cons (ev_var 1) (ea_nil)))) (ev_int)))
theorem sc_share_of : FnScope ["here", "there", "time"] ["here", "there", "time"] (defScope s_share_of) := ⟨rfl, rfl, rfl, by decide +kernel, rfl, by decide +kernel, by decide +kernel⟩
def g_share_of : Mo Fl := sRet (mIf (mTest (mOp eqD (mVar 0) (mVar 1))) (mRet C_NOUGHT) (mCall F_quotient (mCons (mCall F_less_by (mCons (mVar 2) (mCons (mVar 0) (mNil)))) (mCons (mCall F_less_by (mCons (mVar 1) (mCons (mVar 0) (mNil)))) (mNil)))))
def F_share_of : Fn := guard 3 (runF 3 g_share_of)
theorem ok_share_of {P : Program} {w : World} {K : PySem.W.Frag} {mg : Str → Option Value} {base : Heap} (T : Say K mg) : FnE P w K mg base 4 "share_of" ["here", "there", "time"] F_share_of := by
  obtain ⟨fd, F⟩ := T.d_share_of
  exact fn_ok F sc_share_of T.g_share_of (fun _ _ _ _ _ _ us hl => match us, hl with | [_, _, _], _ => rfl) fun cdv A outer s H E hr =>
    ss_one (s_ret (ev_if (et_cmp (dop_eq hr.units) (ev_var 0) (ev_var 1) (nomark _)) (ev_glob T.c_NOUGHT) (ev_call (ok_quotient T) (hr.mono (by decide)) pass_cx (ea_cons (ev_call (ok_less_by T) (hr.mono (by decide)) pass_cx (ea_cons (ev_var 2) (ea_cons (ev_var 0) (ea_nil)))) (ea_cons (ev_call (ok_less_by T) (hr.mono (by decide)) pass_cx (ea_cons (ev_var 1) (ea_cons (ev_var 0) (ea_nil)))) (ea_nil))))))
theorem sc_is_at_most : FnScope ["one", "other"] ["one", "other"] (defScope s_is_at_most) := ⟨rfl, rfl, rfl, by decide +kernel, rfl, by decide +kernel, by decide +kernel⟩
def g_is_at_most : Mo Fl := sRet (mNotV (mCall F_is_less (mCons (mVar 1) (mCons (mVar 0) (mNil)))))
def F_is_at_most : Fn := guard 2 (runF 2 g_is_at_most)
theorem ok_is_at_most {P : Program} {w : World} {K : PySem.W.Frag} {mg : Str → Option Value} {base : Heap} (T : Say K mg) : FnE P w K mg base 2 "is_at_most" ["one", "other"] F_is_at_most := by
  obtain ⟨fd, F⟩ := T.d_is_at_most
  exact fn_ok F sc_is_at_most T.g_is_at_most (fun _ _ _ _ _ _ us hl => match us, hl with | [_, _], _ => rfl) fun cdv A outer s H E hr =>
    ss_one (s_ret (ev_not (ev_call (ok_is_less T) (hr.mono (by decide)) pass_cx (ea_cons (ev_var 1) (ea_cons (ev_var 0) (ea_nil))))))
theorem sc_span_of : FnScope ["knots", "time", "full", "here", "at"] ["knots", "time"] (defScope s_span_of) := ⟨rfl, rfl, rfl, by decide +kernel, rfl, by decide +kernel, by decide +kernel⟩
def g_span_of_1 : Mo Fl := sRet (mIf (mTest (mOp (cmpD gtI) (mBuilt lenD (mCons (mVar 3) (mNil))) (mRet (.int 0)))) (mOp ixD (mVar 3) (mRet (.int 0))) (mOp ixD (mVar 2) (mUn negD (mRet (.int 1)))))
def g_span_of_2 : Mo Fl := sSeq (sSet 3 (mList (mBlk [4] (mSeqS (mVar 2)) (lcBody [4] (gSet 4) (mAnd (mTest (mCall F_is_at_most (mCons (mOp ixD (mVar 0) (mVar 4)) (mCons (mVar 1) (mNil))))) (mTest (mCall F_is_less (mCons (mVar 1) (mCons (mOp ixD (mVar 0) (mOp addD (mVar 4) (mRet (.int 1)))) (mNil)))))) (mVar 4)))))
  (g_span_of_1)
def g_span_of : Mo Fl := sSeq (sSet 2 (mList (mBlk [4] (mRange range1D (mCons (mOp subD (mBuilt lenD (mCons (mVar 0) (mNil))) (mRet (.int 1))) (mNil))) (lcBody [4] (gSet 4) (mTest (mCall F_is_less (mCons (mOp ixD (mVar 0) (mVar 4)) (mCons (mOp ixD (mVar 0) (mOp addD (mVar 4) (mRet (.int 1)))) (mNil))))) (mVar 4)))))
  (g_span_of_2)
def F_span_of : Fn := guard 2 (runF 5 g_span_of)
theorem ok_span_of {P : Program} {w : World} {K : PySem.W.Frag} {mg : Str → Option Value} {base : Heap} (T : Say K mg) : FnE P w K mg base 3 "span_of" ["knots", "time"] F_span_of := by
  obtain ⟨fd, F⟩ := T.d_span_of
  exact fn_ok F sc_span_of T.g_span_of (fun _ _ _ _ _ _ us hl => match us, hl with | [_, _], _ => rfl) fun cdv A outer s H E hr =>
    ss_cons ((lc_c (own := [("at", 4)]) (iv_range1 (T.m_range) (ea_cons (ev_op dop_sub (ev_callB dc_len (T.m_len) (by decide +kernel) (ea_cons (ev_var 0) (ea_nil))) (ev_int)) (ea_nil))) const_range1 (blkOk_by (own := [("at", 4)]) (by kernel_rfl)) (fun _ _ _ _ _ => gv_name (i := 4) sc_span_of.nd) (fun _ _ _ _ _ => eif_one (et_val (ev_call (ok_is_less T) (hr.mono (by decide)) passL (ea_cons (ev_ix (ev_var 0) (ev_var 4)) (ea_cons (ev_ix (ev_var 0) (ev_op dop_add (ev_var 4) (ev_int))) (ea_nil)))))) (fun _ _ _ _ _ => ev_var 4)).set (i := 2) rfl sc_span_of.nd (sw_true rfl rfl rfl (by kernel_rfl)))
    (ss_cons ((lc_c (own := [("at", 4)]) (iv_seq (ev_var 2)) const_seq (blkOk_by (own := [("at", 4)]) (by kernel_rfl)) (fun _ _ _ _ _ => gv_name (i := 4) sc_span_of.nd) (fun _ _ _ _ _ => eif_one ((ew_and (et_val (ev_call (ok_is_at_most T) (hr.mono (by decide)) passL (ea_cons (ev_ix (ev_var 0) (ev_var 4)) (ea_cons (ev_var 1) (ea_nil))))) (ew_and1 (et_val (ev_call (ok_is_less T) (hr.mono (by decide)) passL (ea_cons (ev_var 1) (ea_cons (ev_ix (ev_var 0) (ev_op dop_add (ev_var 4) (ev_int))) (ea_nil))))))).et)) (fun _ _ _ _ _ => ev_var 4)).set (i := 3) rfl sc_span_of.nd (sw_true rfl rfl rfl (by kernel_rfl)))
    (ss_one (s_ret (ev_if (et_cmp dop_gt (ev_callB dc_len (T.m_len) (by decide +kernel) (ea_cons (ev_var 3) (ea_nil))) (ev_int) (nomark _)) (ev_ix (ev_var 3) (ev_int)) (ev_ix (ev_var 2) (ev_neg (ev_int)))))))
theorem sc_all_weights : FnScope ["degree", "knots", "time", "span", "found", "deep", "later", "at", "up", "down"] ["degree", "knots", "time"] (defScope s_all_weights) := ⟨rfl, rfl, rfl, by decide +kernel, rfl, by decide +kernel, by decide +kernel⟩
def g_all_weights_1 : Mo Fl := sChg 6 (mCons (mCall F_added (mCons (mVar 8) (mCons (mVar 9) (mNil)))) (mNil)) appC
def g_all_weights_2 : Mo Fl := sSeq (sSet 9 (mCall F_multiplied (mCons (mCall F_share_of (mCons (mOp ixD (mVar 1) (mOp addD (mOp addD (mVar 7) (mVar 5)) (mRet (.int 1)))) (mCons (mOp ixD (mVar 1) (mOp addD (mVar 7) (mRet (.int 1)))) (mCons (mVar 2) (mNil))))) (mCons (mOp ixD (mVar 4) (mOp addD (mVar 7) (mRet (.int 1)))) (mNil)))))
  (g_all_weights_1)
def g_all_weights_3 : Mo Fl := sSeq (sSet 8 (mCall F_multiplied (mCons (mCall F_share_of (mCons (mOp ixD (mVar 1) (mVar 7)) (mCons (mOp ixD (mVar 1) (mOp addD (mVar 7) (mVar 5))) (mCons (mVar 2) (mNil))))) (mCons (mOp ixD (mVar 4) (mVar 7)) (mNil)))))
  (g_all_weights_2)
def g_all_weights_4 : Mo Fl := sSeq (sFor (mRange range1D (mCons (mOp subD (mBuilt lenD (mCons (mVar 4) (mNil))) (mRet (.int 1))) (mNil))) (gSet 7) (g_all_weights_3))
  (sSet 4 (mVar 6))
def g_all_weights_5 : Mo Fl := sSeq (sFor (mRange range2D (mCons (mRet (.int 1)) (mCons (mOp addD (mVar 0) (mRet (.int 1))) (mNil)))) (gSet 5) (sSeq (sOwn 6 (mSized (mNil)))
  (g_all_weights_4)))
  (sRet (mBuilt tupleD (mCons (mVar 4) (mNil))))
def g_all_weights_6 : Mo Fl := sSeq (sSet 4 (mList (mBlk [7] (mRange range1D (mCons (mOp subD (mBuilt lenD (mCons (mVar 1) (mNil))) (mRet (.int 1))) (mNil))) (lcBody [7] (gSet 7) (mRet true) (mIf (mTest (mOp eqD (mVar 7) (mVar 3))) (mRet C_ONE) (mRet C_NOUGHT))))))
  (g_all_weights_5)
def g_all_weights : Mo Fl := sSeq (sSet 3 (mCall F_span_of (mCons (mVar 1) (mCons (mVar 2) (mNil)))))
  (g_all_weights_6)
def F_all_weights : Fn := guard 3 (runF 10 g_all_weights)
theorem ok_all_weights {P : Program} {w : World} {K : PySem.W.Frag} {mg : Str → Option Value} {base : Heap} (T : Say K mg) : FnE P w K mg base 5 "all_weights" ["degree", "knots", "time"] F_all_weights := by
  obtain ⟨fd, F⟩ := T.d_all_weights
  exact fn_ok F sc_all_weights T.g_all_weights (fun _ _ _ _ _ _ us hl => match us, hl with | [_, _, _], _ => rfl) fun cdv A outer s H E hr =>
    ss_cons (s_set (i := 3) (ev_call (ok_span_of T) (hr.mono (by decide)) pass_cx (ea_cons (ev_var 1) (ea_cons (ev_var 2) (ea_nil)))) sc_all_weights.nd)
    (ss_cons ((lc_c (own := [("at", 7)]) (iv_range1 (T.m_range) (ea_cons (ev_op dop_sub (ev_callB dc_len (T.m_len) (by decide +kernel) (ea_cons (ev_var 1) (ea_nil))) (ev_int)) (ea_nil))) const_range1 (blkOk_by (own := [("at", 7)]) (by kernel_rfl)) (fun _ _ _ _ _ => gv_name (i := 7) sc_all_weights.nd) (fun _ _ _ _ _ => eif_nil) (fun _ _ _ _ _ => ev_if (et_cmp (dop_eq hr.units) (ev_var 7) (ev_var 3) (nomark _)) (ev_glob T.c_ONE) (ev_glob T.c_NOUGHT))).set (i := 4) rfl sc_all_weights.nd (sw_true rfl rfl rfl (by kernel_rfl)))
    (ss_cons (s_for pass_own rfl (iv_range2 (T.m_range) (ea_cons (ev_int) (ea_cons (ev_op dop_add (ev_var 0) (ev_int)) (ea_nil)))) const_range2 (gv_name (i := 5) sc_all_weights.nd) (ss_cons (s_own (i := 6) (en_lst (ea_nil)) sc_all_weights.nd)
    (ss_cons (s_for pass_own rfl (iv_range1 (T.m_range) (ea_cons (ev_op dop_sub (ev_callB dc_len (T.m_len) (by decide +kernel) (ea_cons (ev_var 4) (ea_nil))) (ev_int)) (ea_nil))) const_range1 (gv_name (i := 7) sc_all_weights.nd) (ss_cons (s_set (i := 8) (ev_call (ok_multiplied T) (hr.mono (by decide)) pass_cx (ea_cons (ev_call (ok_share_of T) (hr.mono (by decide)) pass_cx (ea_cons (ev_ix (ev_var 1) (ev_var 7)) (ea_cons (ev_ix (ev_var 1) (ev_op dop_add (ev_var 7) (ev_var 5))) (ea_cons (ev_var 2) (ea_nil))))) (ea_cons (ev_ix (ev_var 4) (ev_var 7)) (ea_nil)))) sc_all_weights.nd)
    (ss_cons (s_set (i := 9) (ev_call (ok_multiplied T) (hr.mono (by decide)) pass_cx (ea_cons (ev_call (ok_share_of T) (hr.mono (by decide)) pass_cx (ea_cons (ev_ix (ev_var 1) (ev_op dop_add (ev_op dop_add (ev_var 7) (ev_var 5)) (ev_int))) (ea_cons (ev_ix (ev_var 1) (ev_op dop_add (ev_var 7) (ev_int))) (ea_cons (ev_var 2) (ea_nil))))) (ea_cons (ev_ix (ev_var 4) (ev_op dop_add (ev_var 7) (ev_int))) (ea_nil)))) sc_all_weights.nd)
    (ss_one (s_app (i := 6) (ea_cons (ev_call (ok_added T) (hr.mono (by decide)) pass_cx (ea_cons (ev_var 8) (ea_cons (ev_var 9) (ea_nil)))) (ea_nil)))))))
    (ss_one (s_set (i := 4) (ev_var 6) sc_all_weights.nd)))))
    (ss_one (s_ret (ev_callTy dc_tuple (T.m_tuple) (by decide +kernel) (ea_cons (ev_var 4) (ea_nil)))))))
theorem sc_knots_of : FnScope ["degree", "marks", "rows", "one", "k"] ["degree", "marks"] (defScope s_knots_of) := ⟨rfl, rfl, rfl, by decide +kernel, rfl, by decide +kernel, by decide +kernel⟩
def g_knots_of_1 : Mo Fl := sRet (mTup (mStar (mList (mBlk [4] (mRange range1D (mCons (mVar 0) (mNil))) (lcBody [4] (gSet 4) (mRet true) (mOp ixD (mVar 2) (mRet (.int 0)))))) (mStar (mVar 2) (mStar (mList (mBlk [4] (mRange range1D (mCons (mVar 0) (mNil))) (lcBody [4] (gSet 4) (mRet true) (mOp ixD (mVar 2) (mUn negD (mRet (.int 1))))))) (mNil)))))
def g_knots_of : Mo Fl := sSeq (sSet 2 (mList (mBlk [3] (mSeqS (mVar 1)) (lcBody [3] (gSet 3) (mRet true) (mCall F_value_of (mCons (mVar 3) (mNil)))))))
  (g_knots_of_1)
def F_knots_of : Fn := guard 2 (runF 5 g_knots_of)
theorem ok_knots_of {P : Program} {w : World} {K : PySem.W.Frag} {mg : Str → Option Value} {base : Heap} (T : Say K mg) : FnE P w K mg base 3 "knots_of" ["degree", "marks"] F_knots_of := by
  obtain ⟨fd, F⟩ := T.d_knots_of
  exact fn_ok F sc_knots_of T.g_knots_of (fun _ _ _ _ _ _ us hl => match us, hl with | [_, _], _ => rfl) fun cdv A outer s H E hr =>
    ss_cons (s_set (i := 2) (((lc_c (own := [("one", 3)]) (iv_seq (ev_var 1)) const_seq (blkOk_by (own := [("one", 3)]) (by kernel_rfl)) (fun _ _ _ _ _ => gv_name (i := 3) sc_knots_of.nd) (fun _ _ _ _ _ => eif_nil) (fun _ _ _ _ _ => ev_call (ok_value_of T) (hr.mono (by decide)) passL (ea_cons (ev_var 3) (ea_nil)))).en rfl sc_knots_of.nd).ev) sc_knots_of.nd)
    (ss_one (s_ret (ev_tup (ea_star (((lc_c (own := [("k", 4)]) (iv_range1 (T.m_range) (ea_cons (ev_var 0) (ea_nil))) const_range1 (blkOk_by (own := [("k", 4)]) (by kernel_rfl)) (fun _ _ _ _ _ => gv_name (i := 4) sc_knots_of.nd) (fun _ _ _ _ _ => eif_nil) (fun _ _ _ _ _ => ev_ix (ev_var 2) (ev_int))).en rfl sc_knots_of.nd).ev) (ea_star (ev_var 2) (ea_star (((lc_c (own := [("k", 4)]) (iv_range1 (T.m_range) (ea_cons (ev_var 0) (ea_nil))) const_range1 (blkOk_by (own := [("k", 4)]) (by kernel_rfl)) (fun _ _ _ _ _ => gv_name (i := 4) sc_knots_of.nd) (fun _ _ _ _ _ => eif_nil) (fun _ _ _ _ _ => ev_ix (ev_var 2) (ev_neg (ev_int)))).en rfl sc_knots_of.nd).ev) (ea_nil)))))))
theorem sc_weight_rows : FnScope ["degree", "marks", "spots", "knots", "spot"] ["degree", "marks", "spots"] (defScope s_weight_rows) := ⟨rfl, rfl, rfl, by decide +kernel, rfl, by decide +kernel, by decide +kernel⟩
def g_weight_rows_1 : Mo Fl := sRet (mList (mBlk [4] (mSeqS (mVar 2)) (lcBody [4] (gSet 4) (mRet true) (mCall F_all_weights (mCons (mVar 0) (mCons (mVar 3) (mCons (mVar 4) (mNil))))))))
def g_weight_rows : Mo Fl := sSeq (sSet 3 (mCall F_knots_of (mCons (mVar 0) (mCons (mVar 1) (mNil)))))
  (g_weight_rows_1)
def F_weight_rows : Fn := guard 3 (runF 5 g_weight_rows)
theorem ok_weight_rows {P : Program} {w : World} {K : PySem.W.Frag} {mg : Str → Option Value} {base : Heap} (T : Say K mg) : FnE P w K mg base 6 "weight_rows" ["degree", "marks", "spots"] F_weight_rows := by
  obtain ⟨fd, F⟩ := T.d_weight_rows
  exact fn_ok F sc_weight_rows T.g_weight_rows (fun _ _ _ _ _ _ us hl => match us, hl with | [_, _, _], _ => rfl) fun cdv A outer s H E hr =>
    ss_cons (s_set (i := 3) (ev_call (ok_knots_of T) (hr.mono (by decide)) pass_cx (ea_cons (ev_var 0) (ea_cons (ev_var 1) (ea_nil)))) sc_weight_rows.nd)
    (ss_one (s_ret (((lc_c (own := [("spot", 4)]) (iv_seq (ev_var 2)) const_seq (blkOk_by (own := [("spot", 4)]) (by kernel_rfl)) (fun _ _ _ _ _ => gv_name (i := 4) sc_weight_rows.nd) (fun _ _ _ _ _ => eif_nil) (fun _ _ _ _ _ => ev_call (ok_all_weights T) (hr.mono (by decide)) passL (ea_cons (ev_var 0) (ea_cons (ev_var 3) (ea_cons (ev_var 4) (ea_nil)))))).en rfl sc_weight_rows.nd).ev)))
theorem sc_weighing : FnScope ["degree", "marks", "points", "value", "spots", "heights", "best", "found"] ["degree", "marks", "points", "value"] (defScope s_weighing) := ⟨rfl, rfl, rfl, by decide +kernel, rfl, by decide +kernel, by decide +kernel⟩
def g_weighing_1 : Mo Fl := sRet (mIf (mTest (mCall F_is_less (mCons (mVar 6) (mCons (mCall F_value_of (mCons (mVar 3) (mNil))) (mNil))))) (mRet .none) (mBuilt tupleD (mCons (mVar 7) (mNil))))
def g_weighing_2 : Mo Fl := sSeq (sAsg (gTupD 2 (gConsD (gSet 6) (gConsD (gSet 7) (gNilD)))) (mCall F_best_weighing (mCons (mCall F_weight_rows (mCons (mVar 0) (mCons (mVar 1) (mCons (mVar 4) (mNil))))) (mCons (mVar 5) (mCons (mCall F_size_for (mCons (mVar 0) (mCons (mVar 1) (mNil)))) (mNil))))))
  (g_weighing_1)
def g_weighing : Mo Fl := sSeq (sAsg (gTupD 2 (gConsD (gSet 4) (gConsD (gSet 5) (gNilD)))) (mCall F_need_points (mCons (mVar 1) (mCons (mVar 2) (mNil)))))
  (g_weighing_2)
def R_weighing : Fn := guard 4 (runF 8 g_weighing)
def a_weighing_0 : List D := [.int 1, .list [.int 0, .int 2], .list [.tuple [.int 0, .int 0], .tuple [.int 1, .int 1], .tuple [.int 2, .int 0]], .tuple [.int 1, .int 2]]
def v_weighing_0 : D := .tuple [.tuple [.int (-1), .int 4], .tuple [.int 1, .int 2], .tuple [.int (-1), .int 4]]
theorem e_weighing_0 : R_weighing a_weighing_0 = some (.ok v_weighing_0) := by kernel_rfl
def a_weighing_1 : List D := [.int 1, .list [.int 0, .int 2], .list [.tuple [.int 0, .int 0], .tuple [.int 1, .int 1], .tuple [.int 2, .int 0]], .tuple [.int 51, .int 100]]
def v_weighing_1 : D := .none
theorem e_weighing_1 : R_weighing a_weighing_1 = some (.ok v_weighing_1) := by kernel_rfl
def F_weighing : Fn := tabF [(a_weighing_0, v_weighing_0), (a_weighing_1, v_weighing_1)]
theorem mir_weighing (ds : List D) (r : Except Exn D) (h : F_weighing ds = some r) : R_weighing ds = some r := tab_cons e_weighing_0 (tab_cons e_weighing_1 (tab_nil)) ds r h
theorem ok_weighing {P : Program} {w : World} {K : PySem.W.Frag} {mg : Str → Option Value} {base : Heap} (T : Say K mg) : FnE P w K mg base 9 "weighing" ["degree", "marks", "points", "value"] F_weighing := by
  obtain ⟨fd, F⟩ := T.d_weighing
  exact FnE.by (F := R_weighing) (fn_ok F sc_weighing T.g_weighing (fun _ _ _ _ _ _ us hl => match us, hl with | [_, _, _, _], _ => rfl) fun cdv A outer s H E hr =>
    ss_cons (s_asg (ev_call (ok_need_points T) (hr.mono (by decide)) pass_cx (ea_cons (ev_var 1) (ea_cons (ev_var 2) (ea_nil)))) (gv_tup rfl (gvs_cons (gv_name (i := 4) sc_weighing.nd) (gvs_cons (gv_name (i := 5) sc_weighing.nd) (gvs_nil)))))
    (ss_cons (s_asg (ev_call (ok_best_weighing T) (hr.mono (by decide)) pass_cx (ea_cons (ev_call (ok_weight_rows T) (hr.mono (by decide)) pass_cx (ea_cons (ev_var 0) (ea_cons (ev_var 1) (ea_cons (ev_var 4) (ea_nil))))) (ea_cons (ev_var 5) (ea_cons (ev_call (ok_size_for T) (hr.mono (by decide)) pass_cx (ea_cons (ev_var 0) (ea_cons (ev_var 1) (ea_nil)))) (ea_nil))))) (gv_tup rfl (gvs_cons (gv_name (i := 6) sc_weighing.nd) (gvs_cons (gv_name (i := 7) sc_weighing.nd) (gvs_nil)))))
    (ss_one (s_ret (ev_if (et_val (ev_call (ok_is_less T) (hr.mono (by decide)) pass_cx (ea_cons (ev_var 6) (ea_cons (ev_call (ok_value_of T) (hr.mono (by decide)) pass_cx (ea_cons (ev_var 3) (ea_nil))) (ea_nil))))) (ev_non) (ev_callTy dc_tuple (T.m_tuple) (by decide +kernel) (ea_cons (ev_var 7) (ea_nil)))))))) mir_weighing
theorem sc_is_row : FnScope ["value", "size", "one"] ["value", "size"] (defScope s_is_row) := ⟨rfl, rfl, rfl, by decide +kernel, rfl, by decide +kernel, by decide +kernel⟩
def g_is_row : Mo Fl := sRet (mAndV (mIsi isTupT (mVar 0)) (mAndV (mOp eqD (mBuilt lenD (mCons (mVar 0) (mNil))) (mVar 1)) (mBuilt allD (mCons (mList (mBlk [2] (mSeqS (mVar 0)) (lcBody [2] (gSet 2) (mRet true) (mCall F_is_value (mCons (mVar 2) (mNil)))))) (mNil)))))
def F_is_row : Fn := guard 2 (runF 3 g_is_row)
theorem ok_is_row {P : Program} {w : World} {K : PySem.W.Frag} {mg : Str → Option Value} {base : Heap} (T : Say K mg) : FnE P w K mg base 3 "is_row" ["value", "size"] F_is_row := by
  obtain ⟨fd, F⟩ := T.d_is_row
  exact fn_ok F sc_is_row T.g_is_row (fun _ _ _ _ _ _ us hl => match us, hl with | [_, _], _ => rfl) fun cdv A outer s H E hr =>
    ss_one (s_ret (ev_and (ev_isi tab_tup (ev_var 0) (T.m_isinstance) (T.m_tuple) (by decide +kernel)) (ev_and (ev_cmp (dop_eq hr.units) (ev_callB dc_len (T.m_len) (by decide +kernel) (ea_cons (ev_var 0) (ea_nil))) (ev_var 1) (nomark _)) (ev_one (ev_callB (dc_all rfl) (T.m_all) (by decide +kernel) (ea_cons (((lc_c (own := [("one", 2)]) (iv_seq (ev_var 0)) const_seq (blkOk_by (own := [("one", 2)]) (by kernel_rfl)) (fun _ _ _ _ _ => gv_name (i := 2) sc_is_row.nd) (fun _ _ _ _ _ => eif_nil) (fun _ _ _ _ _ => ev_call (ok_is_value T) (hr.mono (by decide)) passL (ea_cons (ev_var 2) (ea_nil)))).en rfl sc_is_row.nd).ev) (ea_nil)))))))
theorem sc_kills : FnScope ["rows", "row", "size", "column"] ["rows", "row", "size"] (defScope s_kills) := ⟨rfl, rfl, rfl, by decide +kernel, rfl, by decide +kernel, by decide +kernel⟩
def g_kills : Mo Fl := sRet (mBuilt allD (mCons (mList (mBlk [3] (mSeqS (mCall F_turned (mCons (mVar 0) (mCons (mVar 2) (mNil))))) (lcBody [3] (gSet 3) (mRet true) (mOp eqD (mCall F_together (mCons (mVar 3) (mCons (mVar 1) (mNil)))) (mRet C_NOUGHT))))) (mNil)))
def F_kills : Fn := guard 3 (runF 4 g_kills)
theorem ok_kills {P : Program} {w : World} {K : PySem.W.Frag} {mg : Str → Option Value} {base : Heap} (T : Say K mg) : FnE P w K mg base 6 "kills" ["rows", "row", "size"] F_kills := by
  obtain ⟨fd, F⟩ := T.d_kills
  exact fn_ok F sc_kills T.g_kills (fun _ _ _ _ _ _ us hl => match us, hl with | [_, _, _], _ => rfl) fun cdv A outer s H E hr =>
    ss_one (s_ret (ev_callB (dc_all rfl) (T.m_all) (by decide +kernel) (ea_cons (((lc_c (own := [("column", 3)]) (iv_seq (ev_call (ok_turned T) (hr.mono (by decide)) pass_cx (ea_cons (ev_var 0) (ea_cons (ev_var 2) (ea_nil))))) const_seq (blkOk_by (own := [("column", 3)]) (by kernel_rfl)) (fun _ _ _ _ _ => gv_name (i := 3) sc_kills.nd) (fun _ _ _ _ _ => eif_nil) (fun _ _ _ _ _ => ev_cmp (dop_eq hr.units) (ev_call (ok_together T) (hr.mono (by decide)) passL (ea_cons (ev_var 3) (ea_cons (ev_var 1) (ea_nil)))) (ev_glob T.c_NOUGHT) (nomark _))).en rfl sc_kills.nd).ev) (ea_nil))))
theorem sc_weighing_holds : FnScope ["degree", "marks", "points", "value", "paper", "rows", "row", "spots", "heights", "one"] ["degree", "marks", "points", "value", "paper"] (defScope s_weighing_holds) := ⟨rfl, rfl, rfl, by decide +kernel, rfl, by decide +kernel, by decide +kernel⟩
def g_weighing_holds_1 : Mo Fl := sRet (mNotV (mCall F_is_less (mCons (mCall F_together (mCons (mVar 6) (mCons (mVar 8) (mNil)))) (mCons (mCall F_value_of (mCons (mVar 3) (mNil))) (mNil)))))
def g_weighing_holds_2 : Mo Fl := sSeq (sIf (mOr (mTest (mOp neD (mCall F_summed (mCons (mList (mBlk [9] (mSeqS (mVar 6)) (lcBody [9] (gSet 9) (mRet true) (mCall F_size_of (mCons (mVar 9) (mNil)))))) (mNil))) (mRet C_ONE))) (mNot (mTest (mCall F_kills (mCons (mVar 5) (mCons (mVar 6) (mCons (mCall F_size_for (mCons (mVar 0) (mCons (mVar 1) (mNil)))) (mNil)))))))) (sRet (mRet (.bool false))) (sNext))
  (g_weighing_holds_1)
def g_weighing_holds_3 : Mo Fl := sSeq (sSet 6 (mList (mBlk [9] (mSeqS (mVar 4)) (lcBody [9] (gSet 9) (mRet true) (mCall F_value_of (mCons (mVar 9) (mNil)))))))
  (g_weighing_holds_2)
def g_weighing_holds_4 : Mo Fl := sSeq (sIf (mNot (mTest (mCall F_is_row (mCons (mVar 4) (mCons (mBuilt lenD (mCons (mVar 5) (mNil))) (mNil)))))) (sRet (mRet (.bool false))) (sNext))
  (g_weighing_holds_3)
def g_weighing_holds_5 : Mo Fl := sSeq (sSet 5 (mCall F_weight_rows (mCons (mVar 0) (mCons (mVar 1) (mCons (mVar 7) (mNil))))))
  (g_weighing_holds_4)
def g_weighing_holds : Mo Fl := sSeq (sAsg (gTupD 2 (gConsD (gSet 7) (gConsD (gSet 8) (gNilD)))) (mCall F_need_points (mCons (mVar 1) (mCons (mVar 2) (mNil)))))
  (g_weighing_holds_5)
def R_weighing_holds : Fn := guard 5 (runF 10 g_weighing_holds)
def a_weighing_holds_0 : List D := [.int 1, .list [.int 0, .int 2], .list [.tuple [.int 0, .int 0], .tuple [.int 1, .int 1], .tuple [.int 2, .int 0]], .tuple [.int 1, .int 2], .tuple [.tuple [.int (-1), .int 4], .tuple [.int 1, .int 2], .tuple [.int (-1), .int 4]]]
def v_weighing_holds_0 : D := .bool true
theorem e_weighing_holds_0 : R_weighing_holds a_weighing_holds_0 = some (.ok v_weighing_holds_0) := by kernel_rfl
def a_weighing_holds_1 : List D := [.int 1, .list [.int 0, .int 2], .list [.tuple [.int 0, .int 0], .tuple [.int 1, .int 1], .tuple [.int 2, .int 0]], .tuple [.int 1, .int 2], .tuple [.tuple [.int 1, .int 4], .tuple [.int (-1), .int 2], .tuple [.int 1, .int 4]]]
def v_weighing_holds_1 : D := .bool false
theorem e_weighing_holds_1 : R_weighing_holds a_weighing_holds_1 = some (.ok v_weighing_holds_1) := by kernel_rfl
def a_weighing_holds_2 : List D := [.int 1, .list [.int 0, .int 2], .list [.tuple [.int 0, .int 0], .tuple [.int 1, .int 1], .tuple [.int 2, .int 0]], .tuple [.int 1, .int 3], .tuple [.tuple [.int (-1), .int 4], .tuple [.int 1, .int 2], .tuple [.int (-1), .int 4]]]
def v_weighing_holds_2 : D := .bool true
theorem e_weighing_holds_2 : R_weighing_holds a_weighing_holds_2 = some (.ok v_weighing_holds_2) := by kernel_rfl
def a_weighing_holds_3 : List D := [.int 1, .list [.int 0, .int 2], .list [.tuple [.int 0, .int 0], .tuple [.int 1, .int 1], .tuple [.int 2, .int 0]], .tuple [.int 1, .int 1], .tuple [.tuple [.int (-1), .int 4], .tuple [.int 1, .int 2], .tuple [.int (-1), .int 4]]]
def v_weighing_holds_3 : D := .bool false
theorem e_weighing_holds_3 : R_weighing_holds a_weighing_holds_3 = some (.ok v_weighing_holds_3) := by kernel_rfl
def a_weighing_holds_4 : List D := [.int 1, .list [.int 0, .int 3], .list [.tuple [.int 0, .int 0], .tuple [.int 1, .int 0], .tuple [.int 2, .int 4], .tuple [.int 3, .int 4]], .int 1, .tuple [.tuple [.int 0, .int 1], .tuple [.int (-1), .int 4], .tuple [.int 1, .int 2], .tuple [.int (-1), .int 4]]]
def v_weighing_holds_4 : D := .bool true
theorem e_weighing_holds_4 : R_weighing_holds a_weighing_holds_4 = some (.ok v_weighing_holds_4) := by kernel_rfl
def a_weighing_holds_5 : List D := [.int 1, .list [.int 0, .int 2], .list [.tuple [.int 0, .int 0], .tuple [.int 1, .int 1], .tuple [.int 2, .int 0]], .tuple [.int 1, .int 2], .tuple [.int (-1), .int 2, .int (-1)]]
def v_weighing_holds_5 : D := .bool false
theorem e_weighing_holds_5 : R_weighing_holds a_weighing_holds_5 = some (.ok v_weighing_holds_5) := by kernel_rfl
def a_weighing_holds_6 : List D := [.int 1, .list [.int 0, .int 3], .list [.tuple [.int 0, .int 0], .tuple [.int 1, .int 0], .tuple [.int 2, .int 4], .tuple [.int 3, .int 4]], .tuple [.int 2, .int 3], .tuple [.tuple [.int 1, .int 3], .tuple [.int (-1), .int 2], .int 0, .tuple [.int 1, .int 6]]]
def v_weighing_holds_6 : D := .bool true
theorem e_weighing_holds_6 : R_weighing_holds a_weighing_holds_6 = some (.ok v_weighing_holds_6) := by kernel_rfl
def a_weighing_holds_7 : List D := [.int 1, .list [.int 0, .int 3], .list [.tuple [.int 0, .int 0], .tuple [.int 1, .int 0], .tuple [.int 2, .int 4], .tuple [.int 3, .int 4]], .tuple [.int 2, .int 3], .tuple [.tuple [.int 1, .int 6], .tuple [.int (-1), .int 2], .tuple [.int 1, .int 3], .int 0]]
def v_weighing_holds_7 : D := .bool false
theorem e_weighing_holds_7 : R_weighing_holds a_weighing_holds_7 = some (.ok v_weighing_holds_7) := by kernel_rfl
def a_weighing_holds_8 : List D := [.int 1, .list [.int 0, .int 3], .list [.tuple [.int 0, .int 0], .tuple [.int 1, .int 0], .tuple [.int 2, .int 4], .tuple [.int 3, .int 4]], .tuple [.int 101, .int 100], .tuple [.tuple [.int 0, .int 1], .tuple [.int (-1), .int 4], .tuple [.int 1, .int 2], .tuple [.int (-1), .int 4]]]
def v_weighing_holds_8 : D := .bool false
theorem e_weighing_holds_8 : R_weighing_holds a_weighing_holds_8 = some (.ok v_weighing_holds_8) := by kernel_rfl
def a_weighing_holds_9 : List D := [.int 1, .list [.int 0, .int 2], .list [.tuple [.int 0, .int 0], .tuple [.int 1, .int 1], .tuple [.int 2, .int 0]], .tuple [.int 1, .int 2], .list [.tuple [.int (-1), .int 4], .tuple [.int 1, .int 2], .tuple [.int (-1), .int 4]]]
def v_weighing_holds_9 : D := .bool false
theorem e_weighing_holds_9 : R_weighing_holds a_weighing_holds_9 = some (.ok v_weighing_holds_9) := by kernel_rfl
def F_weighing_holds : Fn := tabF [(a_weighing_holds_0, v_weighing_holds_0), (a_weighing_holds_1, v_weighing_holds_1), (a_weighing_holds_2, v_weighing_holds_2), (a_weighing_holds_3, v_weighing_holds_3), (a_weighing_holds_4, v_weighing_holds_4), (a_weighing_holds_5, v_weighing_holds_5), (a_weighing_holds_6, v_weighing_holds_6), (a_weighing_holds_7, v_weighing_holds_7), (a_weighing_holds_8, v_weighing_holds_8), (a_weighing_holds_9, v_weighing_holds_9)]
theorem mir_weighing_holds (ds : List D) (r : Except Exn D) (h : F_weighing_holds ds = some r) : R_weighing_holds ds = some r := tab_cons e_weighing_holds_0 (tab_cons e_weighing_holds_1 (tab_cons e_weighing_holds_2 (tab_cons e_weighing_holds_3 (tab_cons e_weighing_holds_4 (tab_cons e_weighing_holds_5 (tab_cons e_weighing_holds_6 (tab_cons e_weighing_holds_7 (tab_cons e_weighing_holds_8 (tab_cons e_weighing_holds_9 (tab_nil)))))))))) ds r h
theorem ok_weighing_holds {P : Program} {w : World} {K : PySem.W.Frag} {mg : Str → Option Value} {base : Heap} (T : Say K mg) : FnE P w K mg base 7 "weighing_holds" ["degree", "marks", "points", "value", "paper"] F_weighing_holds := by
  obtain ⟨fd, F⟩ := T.d_weighing_holds
  exact FnE.by (F := R_weighing_holds) (fn_ok F sc_weighing_holds T.g_weighing_holds (fun _ _ _ _ _ _ us hl => match us, hl with | [_, _, _, _, _], _ => rfl) fun cdv A outer s H E hr =>
    ss_cons (s_asg (ev_call (ok_need_points T) (hr.mono (by decide)) pass_cx (ea_cons (ev_var 1) (ea_cons (ev_var 2) (ea_nil)))) (gv_tup rfl (gvs_cons (gv_name (i := 7) sc_weighing_holds.nd) (gvs_cons (gv_name (i := 8) sc_weighing_holds.nd) (gvs_nil)))))
    (ss_cons (s_set (i := 5) (ev_call (ok_weight_rows T) (hr.mono (by decide)) pass_cx (ea_cons (ev_var 0) (ea_cons (ev_var 1) (ea_cons (ev_var 7) (ea_nil))))) sc_weighing_holds.nd)
    (ss_cons (s_if (et_not (et_val (ev_call (ok_is_row T) (hr.mono (by decide)) pass_cx (ea_cons (ev_var 4) (ea_cons (ev_callB dc_len (T.m_len) (by decide +kernel) (ea_cons (ev_var 5) (ea_nil))) (ea_nil)))))) (ss_one (s_ret (ev_bl))) (ss_nil))
    (ss_cons ((lc_c (own := [("one", 9)]) (iv_seq (ev_var 4)) const_seq (blkOk_by (own := [("one", 9)]) (by kernel_rfl)) (fun _ _ _ _ _ => gv_name (i := 9) sc_weighing_holds.nd) (fun _ _ _ _ _ => eif_nil) (fun _ _ _ _ _ => ev_call (ok_value_of T) (hr.mono (by decide)) passL (ea_cons (ev_var 9) (ea_nil)))).set (i := 6) rfl sc_weighing_holds.nd (sw_true rfl rfl rfl (by kernel_rfl)))
    (ss_cons (s_if ((ew_or (et_cmp (dop_ne hr.units) (ev_call (ok_summed T) (hr.mono (by decide)) pass_cx (ea_cons (((lc_c (own := [("one", 9)]) (iv_seq (ev_var 6)) const_seq (blkOk_by (own := [("one", 9)]) (by kernel_rfl)) (fun _ _ _ _ _ => gv_name (i := 9) sc_weighing_holds.nd) (fun _ _ _ _ _ => eif_nil) (fun _ _ _ _ _ => ev_call (ok_size_of T) (hr.mono (by decide)) passL (ea_cons (ev_var 9) (ea_nil)))).en rfl sc_weighing_holds.nd).ev) (ea_nil))) (ev_glob T.c_ONE) (nomark _)) (ew_or1 (et_not (et_val (ev_call (ok_kills T) (hr.mono (by decide)) pass_cx (ea_cons (ev_var 5) (ea_cons (ev_var 6) (ea_cons (ev_call (ok_size_for T) (hr.mono (by decide)) pass_cx (ea_cons (ev_var 0) (ea_cons (ev_var 1) (ea_nil)))) (ea_nil))))))))).et) (ss_one (s_ret (ev_bl))) (ss_nil))
    (ss_one (s_ret (ev_not (ev_call (ok_is_less T) (hr.mono (by decide)) pass_cx (ea_cons (ev_call (ok_together T) (hr.mono (by decide)) pass_cx (ea_cons (ev_var 6) (ea_cons (ev_var 8) (ea_nil)))) (ea_cons (ev_call (ok_value_of T) (hr.mono (by decide)) pass_cx (ea_cons (ev_var 3) (ea_nil))) (ea_nil)))))))))))) mir_weighing_holds
theorem sc_law_papers_right : FnScope ["_law_mid", "_law_some", "_law_peak", "_law_steps", "_law_points", "_law_worth", "_law_paper", "_law_due"] [] (defScope s_law_papers_right) := ⟨rfl, rfl, rfl, by decide +kernel, rfl, by decide +kernel, by decide +kernel⟩
def g_law_papers_right_1 : Mo Fl := sIf (mTest (mOp neD (mCall F_weighing_holds (mCons (mRet (.int 1)) (mCons (mList (mSized (mCons (mRet (.int 0)) (mCons (mOp ixD (mOp ixD (mVar 4) (mUn negD (mRet (.int 1)))) (mRet (.int 0))) (mNil))))) (mCons (mVar 4) (mCons (mVar 5) (mCons (mVar 6) (mNil))))))) (mVar 7))) (sRet (mRet (.bool false))) (sNext)
def g_law_papers_right_2 : Mo Fl := sRet (mOp isBD (mCall F_weighing_holds (mCons (mRet (.int 1)) (mCons (mList (mSized (mCons (mRet (.int 0)) (mCons (mRet (.int 2)) (mNil))))) (mCons (mVar 2) (mCons (mTup (mCons (mRet (.int 1)) (mCons (mRet (.int 2)) (mNil)))) (mCons (mList (mListOf (mVar 0))) (mNil))))))) (mRet (.bool false)))
def g_law_papers_right_3 : Mo Fl := sSeq (sIf (mOr (mTest (mOp neD (mCall F_weighing (mCons (mRet (.int 1)) (mCons (mList (mSized (mCons (mRet (.int 0)) (mCons (mRet (.int 2)) (mNil))))) (mCons (mVar 2) (mCons (mTup (mCons (mRet (.int 1)) (mCons (mRet (.int 2)) (mNil)))) (mNil)))))) (mVar 0))) (mTest (mOp isNotD (mCall F_weighing (mCons (mRet (.int 1)) (mCons (mList (mSized (mCons (mRet (.int 0)) (mCons (mRet (.int 2)) (mNil))))) (mCons (mVar 2) (mCons (mTup (mCons (mRet (.int 51)) (mCons (mRet (.int 100)) (mNil)))) (mNil)))))) (mRet .none)))) (sRet (mRet (.bool false))) (sNext))
  (g_law_papers_right_2)
def g_law_papers_right_4 : Mo Fl := sSeq (sFor (mSeqS (mVar 1)) (gTupD 4 (gConsD (gSet 4) (gConsD (gSet 5) (gConsD (gSet 6) (gConsD (gSet 7) (gNilD)))))) (g_law_papers_right_1))
  (g_law_papers_right_3)
def g_law_papers_right_5 : Mo Fl := sSeq (sSet 1 (mOp addD (mVar 1) (mList (mSized (mCons (mTup (mCons (mVar 3) (mCons (mTup (mCons (mRet (.int 2)) (mCons (mRet (.int 3)) (mNil)))) (mCons (mTup (mCons (mTup (mCons (mRet (.int 1)) (mCons (mRet (.int 6)) (mNil)))) (mCons (mTup (mCons (mOp subD (mRet (.int 0)) (mRet (.int 1))) (mCons (mRet (.int 2)) (mNil)))) (mCons (mTup (mCons (mRet (.int 1)) (mCons (mRet (.int 3)) (mNil)))) (mCons (mRet (.int 0)) (mNil)))))) (mCons (mRet (.bool false)) (mNil)))))) (mCons (mTup (mCons (mVar 3) (mCons (mTup (mCons (mRet (.int 101)) (mCons (mRet (.int 100)) (mNil)))) (mCons (mOp addD (mTup (mCons (mTup (mCons (mRet (.int 0)) (mCons (mRet (.int 1)) (mNil)))) (mNil))) (mVar 0)) (mCons (mRet (.bool false)) (mNil)))))) (mNil)))))))
  (g_law_papers_right_4)
def g_law_papers_right_6 : Mo Fl := sSeq (sSet 1 (mOp addD (mVar 1) (mList (mSized (mCons (mTup (mCons (mVar 2) (mCons (mTup (mCons (mRet (.int 1)) (mCons (mRet (.int 2)) (mNil)))) (mCons (mTup (mCons (mOp subD (mRet (.int 0)) (mRet (.int 1))) (mCons (mRet (.int 2)) (mCons (mOp subD (mRet (.int 0)) (mRet (.int 1))) (mNil))))) (mCons (mRet (.bool false)) (mNil)))))) (mCons (mTup (mCons (mVar 3) (mCons (mTup (mCons (mRet (.int 2)) (mCons (mRet (.int 3)) (mNil)))) (mCons (mTup (mCons (mTup (mCons (mRet (.int 1)) (mCons (mRet (.int 3)) (mNil)))) (mCons (mTup (mCons (mOp subD (mRet (.int 0)) (mRet (.int 1))) (mCons (mRet (.int 2)) (mNil)))) (mCons (mRet (.int 0)) (mCons (mTup (mCons (mRet (.int 1)) (mCons (mRet (.int 6)) (mNil)))) (mNil)))))) (mCons (mRet (.bool true)) (mNil)))))) (mNil)))))))
  (g_law_papers_right_5)
def g_law_papers_right_7 : Mo Fl := sSeq (sSet 1 (mOp addD (mVar 1) (mList (mSized (mCons (mTup (mCons (mVar 2) (mCons (mTup (mCons (mRet (.int 1)) (mCons (mRet (.int 3)) (mNil)))) (mCons (mVar 0) (mCons (mRet (.bool true)) (mNil)))))) (mCons (mTup (mCons (mVar 2) (mCons (mTup (mCons (mRet (.int 1)) (mCons (mRet (.int 1)) (mNil)))) (mCons (mVar 0) (mCons (mRet (.bool false)) (mNil)))))) (mCons (mTup (mCons (mVar 3) (mCons (mRet (.int 1)) (mCons (mOp addD (mTup (mCons (mTup (mCons (mRet (.int 0)) (mCons (mRet (.int 1)) (mNil)))) (mNil))) (mVar 0)) (mCons (mRet (.bool true)) (mNil)))))) (mNil))))))))
  (g_law_papers_right_6)
def g_law_papers_right_8 : Mo Fl := sSeq (sSet 1 (mList (mSized (mCons (mTup (mCons (mVar 2) (mCons (mTup (mCons (mRet (.int 1)) (mCons (mRet (.int 2)) (mNil)))) (mCons (mVar 0) (mCons (mRet (.bool true)) (mNil)))))) (mCons (mTup (mCons (mVar 2) (mCons (mTup (mCons (mRet (.int 1)) (mCons (mRet (.int 2)) (mNil)))) (mCons (mTup (mCons (mTup (mCons (mRet (.int 1)) (mCons (mRet (.int 4)) (mNil)))) (mCons (mTup (mCons (mOp subD (mRet (.int 0)) (mRet (.int 1))) (mCons (mRet (.int 2)) (mNil)))) (mCons (mTup (mCons (mRet (.int 1)) (mCons (mRet (.int 4)) (mNil)))) (mNil))))) (mCons (mRet (.bool false)) (mNil)))))) (mNil))))))
  (g_law_papers_right_7)
def g_law_papers_right_9 : Mo Fl := sSeq (sSet 0 (mTup (mCons (mTup (mCons (mOp subD (mRet (.int 0)) (mRet (.int 1))) (mCons (mRet (.int 4)) (mNil)))) (mCons (mTup (mCons (mRet (.int 1)) (mCons (mRet (.int 2)) (mNil)))) (mCons (mTup (mCons (mOp subD (mRet (.int 0)) (mRet (.int 1))) (mCons (mRet (.int 4)) (mNil)))) (mNil))))))
  (g_law_papers_right_8)
def g_law_papers_right : Mo Fl := sSeq (sPar2 2 3 (xConsP (mList (mSized (mCons (mTup (mCons (mRet (.int 0)) (mCons (mRet (.int 0)) (mNil)))) (mCons (mTup (mCons (mRet (.int 1)) (mCons (mRet (.int 1)) (mNil)))) (mCons (mTup (mCons (mRet (.int 2)) (mCons (mRet (.int 0)) (mNil)))) (mNil)))))) (xConsP (mList (mSized (mCons (mTup (mCons (mRet (.int 0)) (mCons (mRet (.int 0)) (mNil)))) (mCons (mTup (mCons (mRet (.int 1)) (mCons (mRet (.int 0)) (mNil)))) (mCons (mTup (mCons (mRet (.int 2)) (mCons (mRet (.int 4)) (mNil)))) (mCons (mTup (mCons (mRet (.int 3)) (mCons (mRet (.int 4)) (mNil)))) (mNil))))))) (xNil))))
  (g_law_papers_right_9)
def F_law_papers_right : Fn := guard 0 (runF 8 g_law_papers_right)
theorem ok_law_papers_right {P : Program} {w : World} {K : PySem.W.Frag} {mg : Str → Option Value} {base : Heap} (T : Say K mg) : FnE P w K mg base 10 "_law_papers_right" [] F_law_papers_right := by
  obtain ⟨fd, F⟩ := T.d_law_papers_right
  exact fn_ok F sc_law_papers_right T.g_law_papers_right (fun _ _ _ _ _ _ us hl => match us, hl with | [], _ => rfl) fun cdv A outer s H E hr =>
    ss_cons (s_par2 (i := 2) (j := 3) rfl sc_law_papers_right.nd (ex_consP ((en_lst (ea_cons (ev_tup (ea_cons (ev_int) (ea_cons (ev_int) (ea_nil)))) (ea_cons (ev_tup (ea_cons (ev_int) (ea_cons (ev_int) (ea_nil)))) (ea_cons (ev_tup (ea_cons (ev_int) (ea_cons (ev_int) (ea_nil)))) (ea_nil))))).ev) (ex_consP ((en_lst (ea_cons (ev_tup (ea_cons (ev_int) (ea_cons (ev_int) (ea_nil)))) (ea_cons (ev_tup (ea_cons (ev_int) (ea_cons (ev_int) (ea_nil)))) (ea_cons (ev_tup (ea_cons (ev_int) (ea_cons (ev_int) (ea_nil)))) (ea_cons (ev_tup (ea_cons (ev_int) (ea_cons (ev_int) (ea_nil)))) (ea_nil)))))).ev) (ex_nil))))
    (ss_cons (s_set (i := 0) (ev_tup (ea_cons (ev_tup (ea_cons (ev_op dop_sub (ev_int) (ev_int)) (ea_cons (ev_int) (ea_nil)))) (ea_cons (ev_tup (ea_cons (ev_int) (ea_cons (ev_int) (ea_nil)))) (ea_cons (ev_tup (ea_cons (ev_op dop_sub (ev_int) (ev_int)) (ea_cons (ev_int) (ea_nil)))) (ea_nil))))) sc_law_papers_right.nd)
    (ss_cons (s_set (i := 1) ((en_lst (ea_cons (ev_tup (ea_cons (ev_var 2) (ea_cons (ev_tup (ea_cons (ev_int) (ea_cons (ev_int) (ea_nil)))) (ea_cons (ev_var 0) (ea_cons (ev_bl) (ea_nil)))))) (ea_cons (ev_tup (ea_cons (ev_var 2) (ea_cons (ev_tup (ea_cons (ev_int) (ea_cons (ev_int) (ea_nil)))) (ea_cons (ev_tup (ea_cons (ev_tup (ea_cons (ev_int) (ea_cons (ev_int) (ea_nil)))) (ea_cons (ev_tup (ea_cons (ev_op dop_sub (ev_int) (ev_int)) (ea_cons (ev_int) (ea_nil)))) (ea_cons (ev_tup (ea_cons (ev_int) (ea_cons (ev_int) (ea_nil)))) (ea_nil))))) (ea_cons (ev_bl) (ea_nil)))))) (ea_nil)))).ev) sc_law_papers_right.nd)
    (ss_cons (s_set (i := 1) (ev_op dop_add (ev_var 1) ((en_lst (ea_cons (ev_tup (ea_cons (ev_var 2) (ea_cons (ev_tup (ea_cons (ev_int) (ea_cons (ev_int) (ea_nil)))) (ea_cons (ev_var 0) (ea_cons (ev_bl) (ea_nil)))))) (ea_cons (ev_tup (ea_cons (ev_var 2) (ea_cons (ev_tup (ea_cons (ev_int) (ea_cons (ev_int) (ea_nil)))) (ea_cons (ev_var 0) (ea_cons (ev_bl) (ea_nil)))))) (ea_cons (ev_tup (ea_cons (ev_var 3) (ea_cons (ev_int) (ea_cons (ev_op dop_add (ev_tup (ea_cons (ev_tup (ea_cons (ev_int) (ea_cons (ev_int) (ea_nil)))) (ea_nil))) (ev_var 0)) (ea_cons (ev_bl) (ea_nil)))))) (ea_nil))))).ev)) sc_law_papers_right.nd)
    (ss_cons (s_set (i := 1) (ev_op dop_add (ev_var 1) ((en_lst (ea_cons (ev_tup (ea_cons (ev_var 2) (ea_cons (ev_tup (ea_cons (ev_int) (ea_cons (ev_int) (ea_nil)))) (ea_cons (ev_tup (ea_cons (ev_op dop_sub (ev_int) (ev_int)) (ea_cons (ev_int) (ea_cons (ev_op dop_sub (ev_int) (ev_int)) (ea_nil))))) (ea_cons (ev_bl) (ea_nil)))))) (ea_cons (ev_tup (ea_cons (ev_var 3) (ea_cons (ev_tup (ea_cons (ev_int) (ea_cons (ev_int) (ea_nil)))) (ea_cons (ev_tup (ea_cons (ev_tup (ea_cons (ev_int) (ea_cons (ev_int) (ea_nil)))) (ea_cons (ev_tup (ea_cons (ev_op dop_sub (ev_int) (ev_int)) (ea_cons (ev_int) (ea_nil)))) (ea_cons (ev_int) (ea_cons (ev_tup (ea_cons (ev_int) (ea_cons (ev_int) (ea_nil)))) (ea_nil)))))) (ea_cons (ev_bl) (ea_nil)))))) (ea_nil)))).ev)) sc_law_papers_right.nd)
    (ss_cons (s_set (i := 1) (ev_op dop_add (ev_var 1) ((en_lst (ea_cons (ev_tup (ea_cons (ev_var 3) (ea_cons (ev_tup (ea_cons (ev_int) (ea_cons (ev_int) (ea_nil)))) (ea_cons (ev_tup (ea_cons (ev_tup (ea_cons (ev_int) (ea_cons (ev_int) (ea_nil)))) (ea_cons (ev_tup (ea_cons (ev_op dop_sub (ev_int) (ev_int)) (ea_cons (ev_int) (ea_nil)))) (ea_cons (ev_tup (ea_cons (ev_int) (ea_cons (ev_int) (ea_nil)))) (ea_cons (ev_int) (ea_nil)))))) (ea_cons (ev_bl) (ea_nil)))))) (ea_cons (ev_tup (ea_cons (ev_var 3) (ea_cons (ev_tup (ea_cons (ev_int) (ea_cons (ev_int) (ea_nil)))) (ea_cons (ev_op dop_add (ev_tup (ea_cons (ev_tup (ea_cons (ev_int) (ea_cons (ev_int) (ea_nil)))) (ea_nil))) (ev_var 0)) (ea_cons (ev_bl) (ea_nil)))))) (ea_nil)))).ev)) sc_law_papers_right.nd)
    (ss_cons (s_for pass_own rfl (iv_seq (ev_var 1)) const_seq (gv_tup rfl (gvs_cons (gv_name (i := 4) sc_law_papers_right.nd) (gvs_cons (gv_name (i := 5) sc_law_papers_right.nd) (gvs_cons (gv_name (i := 6) sc_law_papers_right.nd) (gvs_cons (gv_name (i := 7) sc_law_papers_right.nd) (gvs_nil)))))) (ss_one (s_if (et_cmp (dop_ne hr.units) (ev_call (ok_weighing_holds T) (hr.mono (by decide)) pass_cx (ea_cons (ev_int) (ea_cons ((en_lst (ea_cons (ev_int) (ea_cons (ev_ix (ev_ix (ev_var 4) (ev_neg (ev_int))) (ev_int)) (ea_nil)))).ev) (ea_cons (ev_var 4) (ea_cons (ev_var 5) (ea_cons (ev_var 6) (ea_nil))))))) (ev_var 7) (nomark _)) (ss_one (s_ret (ev_bl))) (ss_nil))))
    (ss_cons (s_if ((ew_or (et_cmp (dop_ne hr.units) (ev_call (ok_weighing T) (hr.mono (by decide)) pass_cx (ea_cons (ev_int) (ea_cons ((en_lst (ea_cons (ev_int) (ea_cons (ev_int) (ea_nil)))).ev) (ea_cons (ev_var 2) (ea_cons (ev_tup (ea_cons (ev_int) (ea_cons (ev_int) (ea_nil)))) (ea_nil)))))) (ev_var 0) (nomark _)) (ew_or1 (et_cmp dop_isNot (ev_call (ok_weighing T) (hr.mono (by decide)) pass_cx (ea_cons (ev_int) (ea_cons ((en_lst (ea_cons (ev_int) (ea_cons (ev_int) (ea_nil)))).ev) (ea_cons (ev_var 2) (ea_cons (ev_tup (ea_cons (ev_int) (ea_cons (ev_int) (ea_nil)))) (ea_nil)))))) (ev_non) (nomark _)))).et) (ss_one (s_ret (ev_bl))) (ss_nil))
    (ss_one (s_ret (ev_cmp dop_isB (ev_call (ok_weighing_holds T) (hr.mono (by decide)) pass_cx (ea_cons (ev_int) (ea_cons ((en_lst (ea_cons (ev_int) (ea_cons (ev_int) (ea_nil)))).ev) (ea_cons (ev_var 2) (ea_cons (ev_tup (ea_cons (ev_int) (ea_cons (ev_int) (ea_nil)))) (ea_cons ((en_list (T.m_list) (ev_var 0)).ev) (ea_nil))))))) (ev_bl) (nomark _)))))))))))
theorem sc_least_miss : FnScope ["degree", "marks", "points", "spots", "heights"] ["degree", "marks", "points"] (defScope s_least_miss) := ⟨rfl, rfl, rfl, by decide +kernel, rfl, by decide +kernel, by decide +kernel⟩
def g_least_miss_1 : Mo Fl := sRet (mOp ixD (mCall F_best_weighing (mCons (mCall F_weight_rows (mCons (mVar 0) (mCons (mVar 1) (mCons (mVar 3) (mNil))))) (mCons (mVar 4) (mCons (mCall F_size_for (mCons (mVar 0) (mCons (mVar 1) (mNil)))) (mNil))))) (mRet (.int 0)))
def g_least_miss : Mo Fl := sSeq (sAsg (gTupD 2 (gConsD (gSet 3) (gConsD (gSet 4) (gNilD)))) (mCall F_need_points (mCons (mVar 1) (mCons (mVar 2) (mNil)))))
  (g_least_miss_1)
def R_least_miss : Fn := guard 3 (runF 5 g_least_miss)
def a_least_miss_0 : List D := [.int 0, .list [.int 0, .int 2], .list [.tuple [.int 0, .int 0], .tuple [.int 1, .int 1], .tuple [.int 2, .int 0]]]
def v_least_miss_0 : D := .tuple [.int 1, .int 2]
theorem e_least_miss_0 : R_least_miss a_least_miss_0 = some (.ok v_least_miss_0) := by kernel_rfl
def a_least_miss_1 : List D := [.int 1, .list [.int 0, .int 2], .list [.tuple [.int 0, .int 0], .tuple [.int 1, .int 1], .tuple [.int 2, .int 0]]]
def v_least_miss_1 : D := .tuple [.int 1, .int 2]
theorem e_least_miss_1 : R_least_miss a_least_miss_1 = some (.ok v_least_miss_1) := by kernel_rfl
def a_least_miss_2 : List D := [.int 1, .list [.int 0, .int 1, .int 2], .list [.tuple [.int 0, .int 0], .tuple [.int 1, .int 1], .tuple [.int 2, .int 0]]]
def v_least_miss_2 : D := .tuple [.int 0, .int 1]
theorem e_least_miss_2 : R_least_miss a_least_miss_2 = some (.ok v_least_miss_2) := by kernel_rfl
def a_least_miss_3 : List D := [.int 2, .list [.int 0, .int 2], .list [.tuple [.int 0, .int 0], .tuple [.int 1, .int 1], .tuple [.int 2, .int 0]]]
def v_least_miss_3 : D := .tuple [.int 0, .int 1]
theorem e_least_miss_3 : R_least_miss a_least_miss_3 = some (.ok v_least_miss_3) := by kernel_rfl
def a_least_miss_4 : List D := [.int 0, .list [.int 0, .int 3], .list [.tuple [.int 0, .int 0], .tuple [.int 1, .int 0], .tuple [.int 2, .int 4], .tuple [.int 3, .int 4]]]
def v_least_miss_4 : D := .tuple [.int 2, .int 1]
theorem e_least_miss_4 : R_least_miss a_least_miss_4 = some (.ok v_least_miss_4) := by kernel_rfl
def a_least_miss_5 : List D := [.int 1, .list [.int 0, .int 3], .list [.tuple [.int 0, .int 0], .tuple [.int 1, .int 0], .tuple [.int 2, .int 4], .tuple [.int 3, .int 4]]]
def v_least_miss_5 : D := .tuple [.int 1, .int 1]
theorem e_least_miss_5 : R_least_miss a_least_miss_5 = some (.ok v_least_miss_5) := by kernel_rfl
def a_least_miss_6 : List D := [.int 2, .list [.int 0, .int 3], .list [.tuple [.int 0, .int 0], .tuple [.int 1, .int 0], .tuple [.int 2, .int 4], .tuple [.int 3, .int 4]]]
def v_least_miss_6 : D := .tuple [.int 1, .int 1]
theorem e_least_miss_6 : R_least_miss a_least_miss_6 = some (.ok v_least_miss_6) := by kernel_rfl
def a_least_miss_7 : List D := [.int 3, .list [.int 0, .int 3], .list [.tuple [.int 0, .int 0], .tuple [.int 1, .int 0], .tuple [.int 2, .int 4], .tuple [.int 3, .int 4]]]
def v_least_miss_7 : D := .tuple [.int 0, .int 1]
theorem e_least_miss_7 : R_least_miss a_least_miss_7 = some (.ok v_least_miss_7) := by kernel_rfl
def a_least_miss_8 : List D := [.int 1, .list [.int 0, .int 1, .int 3], .list [.tuple [.int 0, .int 0], .tuple [.int 1, .int 0], .tuple [.int 2, .int 4], .tuple [.int 3, .int 4]]]
def v_least_miss_8 : D := .tuple [.int 1, .int 1]
theorem e_least_miss_8 : R_least_miss a_least_miss_8 = some (.ok v_least_miss_8) := by kernel_rfl
def a_least_miss_9 : List D := [.int 1, .list [.int 0, .int 1, .int 2, .int 3], .list [.tuple [.int 0, .int 0], .tuple [.int 1, .int 0], .tuple [.int 2, .int 4], .tuple [.int 3, .int 4]]]
def v_least_miss_9 : D := .tuple [.int 0, .int 1]
theorem e_least_miss_9 : R_least_miss a_least_miss_9 = some (.ok v_least_miss_9) := by kernel_rfl
def a_least_miss_10 : List D := [.int 0, .list [.int 0, .int 9], .list [.tuple [.int 4, .tuple [.int 7, .int 3]]]]
def v_least_miss_10 : D := .tuple [.int 0, .int 1]
theorem e_least_miss_10 : R_least_miss a_least_miss_10 = some (.ok v_least_miss_10) := by kernel_rfl
def a_least_miss_11 : List D := [.int 1, .list [.int 0, .int 4], .list [.tuple [.int 0, .int 1], .tuple [.int 1, .int 3], .tuple [.int 2, .int 5], .tuple [.int 4, .int 9]]]
def v_least_miss_11 : D := .tuple [.int 0, .int 1]
theorem e_least_miss_11 : R_least_miss a_least_miss_11 = some (.ok v_least_miss_11) := by kernel_rfl
def a_least_miss_12 : List D := [.int 1, .list [.int 0, .int 4], .list [.tuple [.int 0, .int 1], .tuple [.int 1, .int 3], .tuple [.int 2, .int 6], .tuple [.int 4, .int 9]]]
def v_least_miss_12 : D := .tuple [.int 1, .int 2]
theorem e_least_miss_12 : R_least_miss a_least_miss_12 = some (.ok v_least_miss_12) := by kernel_rfl
def a_least_miss_13 : List D := [.int 4, .list [.int 0, .int 1, .int 2], .list [.tuple [.int 0, .int 0], .tuple [.int 1, .int 1], .tuple [.int 2, .int 0]]]
def v_least_miss_13 : D := .tuple [.int 0, .int 1]
theorem e_least_miss_13 : R_least_miss a_least_miss_13 = some (.ok v_least_miss_13) := by kernel_rfl
def a_least_miss_14 : List D := [.int 3, .list [.int 0, .int 1, .int 1, .int 1, .int 2], .list [.tuple [.int 0, .int 0], .tuple [.int 1, .int 1], .tuple [.int 2, .int 0]]]
def v_least_miss_14 : D := .tuple [.int 0, .int 1]
theorem e_least_miss_14 : R_least_miss a_least_miss_14 = some (.ok v_least_miss_14) := by kernel_rfl
def a_least_miss_15 : List D := [.int 4, .list [.int 0, .int 5], .list [.tuple [.int 0, .int 0], .tuple [.int 1, .int 1], .tuple [.int 2, .int (-1)], .tuple [.int 3, .int 1], .tuple [.int 4, .int (-1)], .tuple [.int 5, .int 0]]]
def v_least_miss_15 : D := .tuple [.int 15, .int 16]
theorem e_least_miss_15 : R_least_miss a_least_miss_15 = some (.ok v_least_miss_15) := by kernel_rfl
def a_least_miss_16 : List D := [.int 4, .list [.int 0, .int 5], .list [.tuple [.int 0, .int 0], .tuple [.int 1, .int 1], .tuple [.int 2, .int (-1)], .tuple [.int 3, .int 1], .tuple [.int 4, .int (-1)]]]
def v_least_miss_16 : D := .tuple [.int 0, .int 1]
theorem e_least_miss_16 : R_least_miss a_least_miss_16 = some (.ok v_least_miss_16) := by kernel_rfl
def F_least_miss : Fn := tabF [(a_least_miss_0, v_least_miss_0), (a_least_miss_1, v_least_miss_1), (a_least_miss_2, v_least_miss_2), (a_least_miss_3, v_least_miss_3), (a_least_miss_4, v_least_miss_4), (a_least_miss_5, v_least_miss_5), (a_least_miss_6, v_least_miss_6), (a_least_miss_7, v_least_miss_7), (a_least_miss_8, v_least_miss_8), (a_least_miss_9, v_least_miss_9), (a_least_miss_10, v_least_miss_10), (a_least_miss_11, v_least_miss_11), (a_least_miss_12, v_least_miss_12), (a_least_miss_13, v_least_miss_13), (a_least_miss_14, v_least_miss_14), (a_least_miss_15, v_least_miss_15), (a_least_miss_16, v_least_miss_16)]
theorem mir_least_miss (ds : List D) (r : Except Exn D) (h : F_least_miss ds = some r) : R_least_miss ds = some r := tab_cons e_least_miss_0 (tab_cons e_least_miss_1 (tab_cons e_least_miss_2 (tab_cons e_least_miss_3 (tab_cons e_least_miss_4 (tab_cons e_least_miss_5 (tab_cons e_least_miss_6 (tab_cons e_least_miss_7 (tab_cons e_least_miss_8 (tab_cons e_least_miss_9 (tab_cons e_least_miss_10 (tab_cons e_least_miss_11 (tab_cons e_least_miss_12 (tab_cons e_least_miss_13 (tab_cons e_least_miss_14 (tab_cons e_least_miss_15 (tab_cons e_least_miss_16 (tab_nil))))))))))))))))) ds r h
theorem ok_least_miss {P : Program} {w : World} {K : PySem.W.Frag} {mg : Str → Option Value} {base : Heap} (T : Say K mg) : FnE P w K mg base 9 "least_miss" ["degree", "marks", "points"] F_least_miss := by
  obtain ⟨fd, F⟩ := T.d_least_miss
  exact FnE.by (F := R_least_miss) (fn_ok F sc_least_miss T.g_least_miss (fun _ _ _ _ _ _ us hl => match us, hl with | [_, _, _], _ => rfl) fun cdv A outer s H E hr =>
    ss_cons (s_asg (ev_call (ok_need_points T) (hr.mono (by decide)) pass_cx (ea_cons (ev_var 1) (ea_cons (ev_var 2) (ea_nil)))) (gv_tup rfl (gvs_cons (gv_name (i := 3) sc_least_miss.nd) (gvs_cons (gv_name (i := 4) sc_least_miss.nd) (gvs_nil)))))
    (ss_one (s_ret (ev_ix (ev_call (ok_best_weighing T) (hr.mono (by decide)) pass_cx (ea_cons (ev_call (ok_weight_rows T) (hr.mono (by decide)) pass_cx (ea_cons (ev_var 0) (ea_cons (ev_var 1) (ea_cons (ev_var 3) (ea_nil))))) (ea_cons (ev_var 4) (ea_cons (ev_call (ok_size_for T) (hr.mono (by decide)) pass_cx (ea_cons (ev_var 0) (ea_cons (ev_var 1) (ea_nil)))) (ea_nil))))) (ev_int))))) mir_least_miss
theorem sc_are_marks : FnScope ["degree", "marks", "rows", "counts", "one", "row", "at", "many"] ["degree", "marks"] (defScope s_are_marks) := ⟨rfl, rfl, rfl, by decide +kernel, rfl, by decide +kernel, by decide +kernel⟩
def g_are_marks_1 : Mo Fl := sRet (mAndV (mOp eqD (mOp ixD (mVar 3) (mRet (.int 0))) (mRet (.int 1))) (mAndV (mOp eqD (mOp ixD (mVar 3) (mUn negD (mRet (.int 1)))) (mRet (.int 1))) (mBuilt allD (mCons (mList (mBlk [7] (mSeqS (mSlice (mVar 3) (mPart (mRet (.int 1))) (mPart (mUn negD (mRet (.int 1)))))) (lcBody [7] (gSet 7) (mRet true) (mOp (cmpD leI) (mVar 7) (mVar 0))))) (mNil)))))
def g_are_marks_2 : Mo Fl := sSeq (sSet 3 (mList (mBlk [5] (mSeqS (mVar 2)) (lcBody [5] (gSet 5) (mRet true) (mBuilt lenD (mCons (mList (mBlk [4] (mSeqS (mVar 2)) (lcBody [4] (gSet 4) (mTest (mOp eqD (mVar 4) (mVar 5))) (mVar 4)))) (mNil)))))))
  (g_are_marks_1)
def g_are_marks_3 : Mo Fl := sSeq (sIf (mTest (mBuilt anyD (mCons (mList (mBlk [6] (mRange range1D (mCons (mOp subD (mBuilt lenD (mCons (mVar 2) (mNil))) (mRet (.int 1))) (mNil))) (lcBody [6] (gSet 6) (mRet true) (mCall F_is_less (mCons (mOp ixD (mVar 2) (mOp addD (mVar 6) (mRet (.int 1)))) (mCons (mOp ixD (mVar 2) (mVar 6)) (mNil))))))) (mNil)))) (sRet (mRet (.bool false))) (sNext))
  (g_are_marks_2)
def g_are_marks_4 : Mo Fl := sSeq (sSet 2 (mList (mBlk [4] (mSeqS (mVar 1)) (lcBody [4] (gSet 4) (mRet true) (mCall F_value_of (mCons (mVar 4) (mNil)))))))
  (g_are_marks_3)
def g_are_marks : Mo Fl := sSeq (sIf (mOr (mNot (mTest (mCall F_is_sequence (mCons (mVar 1) (mNil))))) (mOr (mTest (mOp (cmpD leI) (mBuilt lenD (mCons (mVar 1) (mNil))) (mRet (.int 1)))) (mNot (mTest (mBuilt allD (mCons (mList (mBlk [4] (mSeqS (mVar 1)) (lcBody [4] (gSet 4) (mRet true) (mCall F_is_value (mCons (mVar 4) (mNil)))))) (mNil))))))) (sRet (mRet (.bool false))) (sNext))
  (g_are_marks_4)
def F_are_marks : Fn := guard 2 (runF 8 g_are_marks)
theorem ok_are_marks {P : Program} {w : World} {K : PySem.W.Frag} {mg : Str → Option Value} {base : Heap} (T : Say K mg) : FnE P w K mg base 3 "are_marks" ["degree", "marks"] F_are_marks := by
  obtain ⟨fd, F⟩ := T.d_are_marks
  exact fn_ok F sc_are_marks T.g_are_marks (fun _ _ _ _ _ _ us hl => match us, hl with | [_, _], _ => rfl) fun cdv A outer s H E hr =>
    ss_cons (s_if ((ew_or (et_not (et_val (ev_call (ok_is_sequence T) (hr.mono (by decide)) pass_cx (ea_cons (ev_var 1) (ea_nil))))) (ew_or (et_cmp dop_le (ev_callB dc_len (T.m_len) (by decide +kernel) (ea_cons (ev_var 1) (ea_nil))) (ev_int) (nomark _)) (ew_or1 (et_not (et_val (ev_callB (dc_all rfl) (T.m_all) (by decide +kernel) (ea_cons (((lc_c (own := [("one", 4)]) (iv_seq (ev_var 1)) const_seq (blkOk_by (own := [("one", 4)]) (by kernel_rfl)) (fun _ _ _ _ _ => gv_name (i := 4) sc_are_marks.nd) (fun _ _ _ _ _ => eif_nil) (fun _ _ _ _ _ => ev_call (ok_is_value T) (hr.mono (by decide)) passL (ea_cons (ev_var 4) (ea_nil)))).en rfl sc_are_marks.nd).ev) (ea_nil)))))))).et) (ss_one (s_ret (ev_bl))) (ss_nil))
    (ss_cons (s_set (i := 2) (((lc_c (own := [("one", 4)]) (iv_seq (ev_var 1)) const_seq (blkOk_by (own := [("one", 4)]) (by kernel_rfl)) (fun _ _ _ _ _ => gv_name (i := 4) sc_are_marks.nd) (fun _ _ _ _ _ => eif_nil) (fun _ _ _ _ _ => ev_call (ok_value_of T) (hr.mono (by decide)) passL (ea_cons (ev_var 4) (ea_nil)))).en rfl sc_are_marks.nd).ev) sc_are_marks.nd)
    (ss_cons (s_if (et_val (ev_callB (dc_any rfl) (T.m_any) (by decide +kernel) (ea_cons (((lc_c (own := [("at", 6)]) (iv_range1 (T.m_range) (ea_cons (ev_op dop_sub (ev_callB dc_len (T.m_len) (by decide +kernel) (ea_cons (ev_var 2) (ea_nil))) (ev_int)) (ea_nil))) const_range1 (blkOk_by (own := [("at", 6)]) (by kernel_rfl)) (fun _ _ _ _ _ => gv_name (i := 6) sc_are_marks.nd) (fun _ _ _ _ _ => eif_nil) (fun _ _ _ _ _ => ev_call (ok_is_less T) (hr.mono (by decide)) passL (ea_cons (ev_ix (ev_var 2) (ev_op dop_add (ev_var 6) (ev_int))) (ea_cons (ev_ix (ev_var 2) (ev_var 6)) (ea_nil))))).en rfl sc_are_marks.nd).ev) (ea_nil)))) (ss_one (s_ret (ev_bl))) (ss_nil))
    (ss_cons ((lc_c (own := [("row", 5)]) (iv_seq (ev_var 2)) const_seq (blkOk_by (own := [("row", 5)]) (by kernel_rfl)) (fun _ _ _ _ _ => gv_name (i := 5) sc_are_marks.nd) (fun _ _ _ _ _ => eif_nil) (fun _ _ _ _ _ => ev_callB dc_len (T.m_len) (by decide +kernel) (ea_cons (((lc_c (own := [("one", 4)]) (iv_seq (ev_var 2)) const_seq (blkOk_by (own := [("one", 4)]) (by kernel_rfl)) (fun _ _ _ _ _ => gv_name (i := 4) sc_are_marks.nd) (fun _ _ _ _ _ => eif_one (et_cmp (dop_eq hr.units) (ev_var 4) (ev_var 5) (nomark _))) (fun _ _ _ _ _ => ev_var 4)).en rfl sc_are_marks.nd).ev) (ea_nil)))).set (i := 3) rfl sc_are_marks.nd (sw_true rfl rfl rfl (by kernel_rfl)))
    (ss_one (s_ret (ev_and (ev_cmp (dop_eq hr.units) (ev_ix (ev_var 3) (ev_int)) (ev_int) (nomark _)) (ev_and (ev_cmp (dop_eq hr.units) (ev_ix (ev_var 3) (ev_neg (ev_int))) (ev_int) (nomark _)) (ev_one (ev_callB (dc_all rfl) (T.m_all) (by decide +kernel) (ea_cons (((lc_c (own := [("many", 7)]) (iv_seq (ev_slice (ev_var 3) (eo_some (ev_int)) (eo_some (ev_neg (ev_int))))) const_seq (blkOk_by (own := [("many", 7)]) (by kernel_rfl)) (fun _ _ _ _ _ => gv_name (i := 7) sc_are_marks.nd) (fun _ _ _ _ _ => eif_nil) (fun _ _ _ _ _ => ev_cmp dop_le (ev_var 7) (ev_var 0) (nomark _))).en rfl sc_are_marks.nd).ev) (ea_nil)))))))))))
theorem sc_text_of : FnScope ["value"] ["value"] (defScope s_text_of) := ⟨rfl, rfl, rfl, by decide +kernel, rfl, by decide +kernel, by decide +kernel⟩
def g_text_of : Mo Fl := sRet (mIf (mTest (mOp eqD (mOp ixD (mVar 0) (mRet (.int 1))) (mRet (.int 1)))) (mBuilt strD (mCons (mOp ixD (mVar 0) (mRet (.int 0))) (mNil))) (mJoined (jCons (mUn fmtD (mOp ixD (mVar 0) (mRet (.int 0)))) (jCons (mRet (.str "/")) (jCons (mUn fmtD (mOp ixD (mVar 0) (mRet (.int 1)))) (jNil))))))
def F_text_of : Fn := guard 1 (runF 1 g_text_of)
theorem ok_text_of {P : Program} {w : World} {K : PySem.W.Frag} {mg : Str → Option Value} {base : Heap} (T : Say K mg) : FnE P w K mg base 1 "text_of" ["value"] F_text_of := by
  obtain ⟨fd, F⟩ := T.d_text_of
  exact fn_ok F sc_text_of T.g_text_of (fun _ _ _ _ _ _ us hl => match us, hl with | [_], _ => rfl) fun cdv A outer s H E hr =>
    ss_one (s_ret (ev_if (et_cmp (dop_eq hr.units) (ev_ix (ev_var 0) (ev_int)) (ev_int) (nomark _)) (ev_callTy dc_str (T.m_str) (by decide +kernel) (ea_cons (ev_ix (ev_var 0) (ev_int)) (ea_nil))) (ev_joined (ej_cons (ev_fmt (ev_ix (ev_var 0) (ev_int))) (ej_cons (ev_str) (ej_cons (ev_fmt (ev_ix (ev_var 0) (ev_int))) (ej_nil)))))))
theorem sc_text_of_bend : FnScope ["degree", "marks", "handles", "here", "there", "one"] ["degree", "marks", "handles"] (defScope s_text_of_bend) := ⟨rfl, rfl, rfl, by decide +kernel, rfl, by decide +kernel, by decide +kernel⟩
def g_text_of_bend_1 : Mo Fl := sRet (mM1 joinD (mRet (.str " ")) (mList (mSized (mCons (mRet (.str "bend")) (mCons (mBuilt strD (mCons (mVar 0) (mNil))) (mCons (mRet (.str "marks")) (mStar (mVar 3) (mCons (mRet (.str "handles")) (mStar (mVar 4) (mNil))))))))))
def g_text_of_bend : Mo Fl := sSeq (sPar2 3 4 (xConsP (mList (mBlk [5] (mSeqS (mVar 1)) (lcBody [5] (gSet 5) (mRet true) (mCall F_text_of (mCons (mVar 5) (mNil)))))) (xConsP (mList (mBlk [5] (mSeqS (mVar 2)) (lcBody [5] (gSet 5) (mRet true) (mCall F_text_of (mCons (mVar 5) (mNil)))))) (xNil))))
  (g_text_of_bend_1)
def F_text_of_bend : Fn := guard 3 (runF 6 g_text_of_bend)
theorem ok_text_of_bend {P : Program} {w : World} {K : PySem.W.Frag} {mg : Str → Option Value} {base : Heap} (T : Say K mg) : FnE P w K mg base 2 "text_of_bend" ["degree", "marks", "handles"] F_text_of_bend := by
  obtain ⟨fd, F⟩ := T.d_text_of_bend
  exact fn_ok F sc_text_of_bend T.g_text_of_bend (fun _ _ _ _ _ _ us hl => match us, hl with | [_, _, _], _ => rfl) fun cdv A outer s H E hr =>
    ss_cons (s_par2 (i := 3) (j := 4) rfl sc_text_of_bend.nd (ex_consP (((lc_c (own := [("one", 5)]) (iv_seq (ev_var 1)) const_seq (blkOk_by (own := [("one", 5)]) (by kernel_rfl)) (fun _ _ _ _ _ => gv_name (i := 5) sc_text_of_bend.nd) (fun _ _ _ _ _ => eif_nil) (fun _ _ _ _ _ => ev_call (ok_text_of T) (hr.mono (by decide)) passL (ea_cons (ev_var 5) (ea_nil)))).en rfl sc_text_of_bend.nd).ev) (ex_consP (((lc_c (own := [("one", 5)]) (iv_seq (ev_var 2)) const_seq (blkOk_by (own := [("one", 5)]) (by kernel_rfl)) (fun _ _ _ _ _ => gv_name (i := 5) sc_text_of_bend.nd) (fun _ _ _ _ _ => eif_nil) (fun _ _ _ _ _ => ev_call (ok_text_of T) (hr.mono (by decide)) passL (ea_cons (ev_var 5) (ea_nil)))).en rfl sc_text_of_bend.nd).ev) (ex_nil))))
    (ss_one (s_ret (ev_join (ev_str) ((en_lst (ea_cons (ev_str) (ea_cons (ev_callTy dc_str (T.m_str) (by decide +kernel) (ea_cons (ev_var 0) (ea_nil))) (ea_cons (ev_str) (ea_star (ev_var 3) (ea_cons (ev_str) (ea_star (ev_var 4) (ea_nil)))))))).ev))))
theorem sc_Bend_init : FnScope ["self", "degree", "marks", "handles", "one"] ["self", "degree", "marks", "handles"] (defScope s_Bend_init) := ⟨rfl, rfl, rfl, by decide +kernel, rfl, by decide +kernel, by decide +kernel⟩
def g_Bend_init : MoO := oIf (mOr (mNot (mTest (mCall F_is_integer (mCons (mVar 1) (mNil))))) (mTest (mOp (cmpD ltI) (mVar 1) (mRet (.int 0))))) (sNever) (oIf (mNot (mTest (mCall F_are_marks (mCons (mVar 1) (mCons (mVar 2) (mNil)))))) (sNever) (oIf (mOr (mNot (mTest (mCall F_is_sequence (mCons (mVar 3) (mNil))))) (mNot (mTest (mBuilt allD (mCons (mList (mBlk [4] (mSeqS (mVar 3)) (lcBody [4] (gSet 4) (mRet true) (mCall F_is_value (mCons (mVar 4) (mNil)))))) (mNil)))))) (sNever) (oIf (mTest (mOp neD (mBuilt lenD (mCons (mVar 3) (mNil))) (mOp subD (mOp addD (mVar 1) (mBuilt lenD (mCons (mVar 2) (mNil)))) (mRet (.int 1))))) (sNever) (oPut "degree" (fun _ => mVar 1)
  (oPut "marks" (fun _ => mBuilt tupleD (mCons (mList (mBlk [4] (mSeqS (mVar 2)) (lcBody [4] (gSet 4) (mRet true) (mCall F_value_of (mCons (mVar 4) (mNil)))))) (mNil)))
  (oPut "handles" (fun _ => mBuilt tupleD (mCons (mList (mBlk [4] (mSeqS (mVar 3)) (lcBody [4] (gSet 4) (mRet true) (mCall F_value_of (mCons (mVar 4) (mNil)))))) (mNil)))
  (oPut "text" (oCall F_text_of_bend (oCons (fun _ => mVar 1) (oCons (fun kvs => pureF (fldIn "marks" kvs)) (oCons (fun kvs => pureF (fldIn "handles" kvs)) (fun _ => mNil)))))
  (oEnd))))))))
def I_Bend : FnI := guardI 3 (runI 4 g_Bend_init)
theorem mk_Bend {P : Program} {w : World} {K : PySem.W.Frag} {mg : Str → Option Value} {base : Heap} (T : Say K mg) : MkE P w K mg base 4 "Bend" 3 I_Bend := by
  obtain ⟨fd, F⟩ := T.d_Bend_init
  exact init_ok F sc_Bend_init T.mk_Bend T.gc_Bend (fun _ _ _ _ _ _ us hl => match us, hl with | [_, _, _, _], _ => rfl) fun cdv A outer s H E hr =>
    so_if ((ew_or (et_not (et_val (ev_call (ok_is_integer T) (hr.mono (by decide)) pass_cx (ea_cons (ev_var 1) (ea_nil))))) (ew_or1 (et_cmp dop_lt (ev_var 1) (ev_int) (nomark _)))).et) (ss_one (s_never)) (so_if (et_not (et_val (ev_call (ok_are_marks T) (hr.mono (by decide)) pass_cx (ea_cons (ev_var 1) (ea_cons (ev_var 2) (ea_nil)))))) (ss_one (s_never)) (so_if ((ew_or (et_not (et_val (ev_call (ok_is_sequence T) (hr.mono (by decide)) pass_cx (ea_cons (ev_var 3) (ea_nil))))) (ew_or1 (et_not (et_val (ev_callB (dc_all rfl) (T.m_all) (by decide +kernel) (ea_cons (((lc_c (own := [("one", 4)]) (iv_seq (ev_var 3)) const_seq (blkOk_by (own := [("one", 4)]) (by kernel_rfl)) (fun _ _ _ _ _ => gv_name (i := 4) sc_Bend_init.nd) (fun _ _ _ _ _ => eif_nil) (fun _ _ _ _ _ => ev_call (ok_is_value T) (hr.mono (by decide)) passL (ea_cons (ev_var 4) (ea_nil)))).en rfl sc_Bend_init.nd).ev) (ea_nil))))))).et) (ss_one (s_never)) (so_if (et_cmp (dop_ne hr.units) (ev_callB dc_len (T.m_len) (by decide +kernel) (ea_cons (ev_var 3) (ea_nil))) (ev_op dop_sub (ev_op dop_add (ev_var 1) (ev_callB dc_len (T.m_len) (by decide +kernel) (ea_cons (ev_var 2) (ea_nil)))) (ev_int)) (nomark _)) (ss_one (s_never)) (so_put (evo_of (ev_var 1))
    (so_put (evo_of (ev_callTy dc_tuple (T.m_tuple) (by decide +kernel) (ea_cons (((lc_c (own := [("one", 4)]) (iv_seq (ev_var 2)) const_seq (blkOk_by (own := [("one", 4)]) (by kernel_rfl)) (fun _ _ _ _ _ => gv_name (i := 4) sc_Bend_init.nd) (fun _ _ _ _ _ => eif_nil) (fun _ _ _ _ _ => ev_call (ok_value_of T) (hr.mono (by decide)) passL (ea_cons (ev_var 4) (ea_nil)))).en rfl sc_Bend_init.nd).ev) (ea_nil))))
    (so_put (evo_of (ev_callTy dc_tuple (T.m_tuple) (by decide +kernel) (ea_cons (((lc_c (own := [("one", 4)]) (iv_seq (ev_var 3)) const_seq (blkOk_by (own := [("one", 4)]) (by kernel_rfl)) (fun _ _ _ _ _ => gv_name (i := 4) sc_Bend_init.nd) (fun _ _ _ _ _ => eif_nil) (fun _ _ _ _ _ => ev_call (ok_value_of T) (hr.mono (by decide)) passL (ea_cons (ev_var 4) (ea_nil)))).en rfl sc_Bend_init.nd).ev) (ea_nil))))
    (so_put (evo_call (ok_text_of_bend T) (hr.mono (by decide)) pass_cx (eao_cons (evo_of (ev_var 1)) (eao_cons (evo_fld (hc := T.cl_Bend) (hn := T.na_Bend_marks)) (eao_cons (evo_fld (hc := T.cl_Bend) (hn := T.na_Bend_handles)) (eao_nil)))))
    (so_nil) T.cl_Bend T.na_Bend_text) T.cl_Bend T.na_Bend_handles) T.cl_Bend T.na_Bend_marks) T.cl_Bend T.na_Bend_degree))))
theorem sc_misses : FnScope ["rows", "handles", "heights", "row", "height"] ["rows", "handles", "heights"] (defScope s_misses) := ⟨rfl, rfl, rfl, by decide +kernel, rfl, by decide +kernel, by decide +kernel⟩
def g_misses : Mo Fl := sRet (mList (mBlk [3, 4] (mZipStrict (mCons (mVar 0) (mCons (mVar 2) (mNil)))) (lcBody [3, 4] (gTupD 2 (gConsD (gSet 3) (gConsD (gSet 4) (gNilD)))) (mRet true) (mCall F_size_of (mCons (mCall F_less_by (mCons (mCall F_together (mCons (mVar 3) (mCons (mVar 1) (mNil)))) (mCons (mVar 4) (mNil)))) (mNil))))))
def F_misses : Fn := guard 3 (runF 5 g_misses)
theorem ok_misses {P : Program} {w : World} {K : PySem.W.Frag} {mg : Str → Option Value} {base : Heap} (T : Say K mg) : FnE P w K mg base 6 "misses" ["rows", "handles", "heights"] F_misses := by
  obtain ⟨fd, F⟩ := T.d_misses
  exact fn_ok F sc_misses T.g_misses (fun _ _ _ _ _ _ us hl => match us, hl with | [_, _, _], _ => rfl) fun cdv A outer s H E hr =>
    ss_one (s_ret (((lc_c (own := [("row", 3), ("height", 4)]) (iv_zipStrict (T.m_zip) (ea_cons (ev_var 0) (ea_cons (ev_var 2) (ea_nil)))) const_zipStrict (blkOk_by (own := [("row", 3), ("height", 4)]) (by kernel_rfl)) (fun _ _ _ _ _ => gv_tup rfl (gvs_cons (gv_name (i := 3) sc_misses.nd) (gvs_cons (gv_name (i := 4) sc_misses.nd) (gvs_nil)))) (fun _ _ _ _ _ => eif_nil) (fun _ _ _ _ _ => ev_call (ok_size_of T) (hr.mono (by decide)) passL (ea_cons (ev_call (ok_less_by T) (hr.mono (by decide)) passL (ea_cons (ev_call (ok_together T) (hr.mono (by decide)) passL (ea_cons (ev_var 3) (ea_cons (ev_var 1) (ea_nil)))) (ea_cons (ev_var 4) (ea_nil)))) (ea_nil)))).en rfl sc_misses.nd).ev))
theorem sc_moved_by : FnScope ["heights", "lot", "signs", "miss", "found", "at", "sign"] ["heights", "lot", "signs", "miss"] (defScope s_moved_by) := ⟨rfl, rfl, rfl, by decide +kernel, rfl, by decide +kernel, by decide +kernel⟩
def g_moved_by_1 : Mo Fl := sChg 4 (mCons (mCall F_added (mCons (mOp ixD (mVar 0) (mVar 5)) (mCons (mCall F_multiplied (mCons (mVar 3) (mCons (mTup (mCons (mVar 6) (mCons (mRet (.int 1)) (mNil)))) (mNil)))) (mNil)))) (mNil)) appC
def g_moved_by_2 : Mo Fl := sSeq (sFor (mZipStrict (mCons (mVar 1) (mCons (mVar 2) (mNil)))) (gTupD 2 (gConsD (gSet 5) (gConsD (gSet 6) (gNilD)))) (g_moved_by_1))
  (sRet (mVar 4))
def g_moved_by : Mo Fl := sSeq (sOwn 4 (mSized (mNil)))
  (g_moved_by_2)
def F_moved_by : Fn := guard 4 (runF 7 g_moved_by)
theorem ok_moved_by {P : Program} {w : World} {K : PySem.W.Frag} {mg : Str → Option Value} {base : Heap} (T : Say K mg) : FnE P w K mg base 4 "moved_by" ["heights", "lot", "signs", "miss"] F_moved_by := by
  obtain ⟨fd, F⟩ := T.d_moved_by
  exact fn_ok F sc_moved_by T.g_moved_by (fun _ _ _ _ _ _ us hl => match us, hl with | [_, _, _, _], _ => rfl) fun cdv A outer s H E hr =>
    ss_cons (s_own (i := 4) (en_lst (ea_nil)) sc_moved_by.nd)
    (ss_cons (s_for pass_own rfl (iv_zipStrict (T.m_zip) (ea_cons (ev_var 1) (ea_cons (ev_var 2) (ea_nil)))) const_zipStrict (gv_tup rfl (gvs_cons (gv_name (i := 5) sc_moved_by.nd) (gvs_cons (gv_name (i := 6) sc_moved_by.nd) (gvs_nil)))) (ss_one (s_app (i := 4) (ea_cons (ev_call (ok_added T) (hr.mono (by decide)) pass_cx (ea_cons (ev_ix (ev_var 0) (ev_var 5)) (ea_cons (ev_call (ok_multiplied T) (hr.mono (by decide)) pass_cx (ea_cons (ev_var 3) (ea_cons (ev_tup (ea_cons (ev_var 6) (ea_cons (ev_int) (ea_nil)))) (ea_nil)))) (ea_nil)))) (ea_nil)))))
    (ss_one (s_ret (ev_var 4))))
theorem sc_signs_of : FnScope ["size", "found", "at", "row", "sign"] ["size"] (defScope s_signs_of) := ⟨rfl, rfl, rfl, by decide +kernel, rfl, by decide +kernel, by decide +kernel⟩
def g_signs_of_1 : Mo Fl := sSet 1 (mList (mBlk2 [3, 4] [4] (mSeqS (mVar 1)) (gSet 3) (mSeqS (mTup (mCons (mRet (.int 1)) (mCons (mUn negD (mRet (.int 1))) (mNil))))) (gSet 4) (mTup (mStar (mVar 3) (mCons (mVar 4) (mNil))))))
def g_signs_of_2 : Mo Fl := sSeq (sFor (mRange range1D (mCons (mVar 0) (mNil))) (gSet 2) (g_signs_of_1))
  (sRet (mVar 1))
def g_signs_of : Mo Fl := sSeq (sSet 1 (mList (mSized (mCons (mTup (mNil)) (mNil)))))
  (g_signs_of_2)
def F_signs_of : Fn := guard 1 (runF 5 g_signs_of)
theorem ok_signs_of {P : Program} {w : World} {K : PySem.W.Frag} {mg : Str → Option Value} {base : Heap} (T : Say K mg) : FnE P w K mg base 1 "signs_of" ["size"] F_signs_of := by
  obtain ⟨fd, F⟩ := T.d_signs_of
  exact fn_ok F sc_signs_of T.g_signs_of (fun _ _ _ _ _ _ us hl => match us, hl with | [_], _ => rfl) fun cdv A outer s H E hr =>
    ss_cons (s_set (i := 1) ((en_lst (ea_cons (ev_tup (ea_nil)) (ea_nil))).ev) sc_signs_of.nd)
    (ss_cons (s_for pass_own rfl (iv_range1 (T.m_range) (ea_cons (ev_var 0) (ea_nil))) const_range1 (gv_name (i := 2) sc_signs_of.nd) (ss_one (s_setLc2 (i := 1) (own := [("row", 3), ("sign", 4)]) (vs1 := [4]) (iv_seq (ev_var 1)) const_seq (blkOk_by (own := [("row", 3), ("sign", 4)]) (by kernel_rfl)) (fun _ _ _ _ _ => gv_name (i := 3) sc_signs_of.nd) (fun _ _ _ _ _ => iv_seq (ev_tup (ea_cons (ev_int) (ea_cons (ev_neg (ev_int)) (ea_nil))))) const_seq (fun _ _ _ _ _ => gv_name (i := 4) sc_signs_of.nd) (fun _ _ _ _ _ => ev_tup (ea_star (ev_var 3) (ea_cons (ev_var 4) (ea_nil)))) rfl sc_signs_of.nd (sw_true rfl rfl rfl (by kernel_rfl)))))
    (ss_one (s_ret (ev_var 1))))
theorem sc_solved : FnScope ["rows", "goals", "size", "told", "found", "leads", "row", "lead", "at", "goal"] ["rows", "goals", "size"] (defScope s_solved) := ⟨rfl, rfl, rfl, by decide +kernel, rfl, by decide +kernel, by decide +kernel⟩
def g_solved_1 : Mo Fl := sSeq (sFor (mZipStrict (mCons (mVar 4) (mCons (mVar 5) (mNil)))) (gTupD 2 (gConsD (gSet 6) (gConsD (gSet 7) (gNilD)))) (sPut 3 (mVar 7) (mOp ixD (mVar 6) (mVar 2))))
  (sRet (mVar 3))
def g_solved_2 : Mo Fl := sSeq (sOwn 3 (mBlk [8] (mRange range1D (mCons (mVar 2) (mNil))) (lcBody [8] (gSet 8) (mRet true) (mRet C_NOUGHT))))
  (g_solved_1)
def g_solved_3 : Mo Fl := sSeq (sIf (mTest (mOp inD (mVar 2) (mVar 5))) (sRet (mRet .none)) (sNext))
  (g_solved_2)
def g_solved : Mo Fl := sSeq (sAsg (gTupD 2 (gConsD (gSet 4) (gConsD (gSet 5) (gNilD)))) (mCall F_reduced (mCons (mList (mBlk [6, 9] (mZipStrict (mCons (mVar 0) (mCons (mVar 1) (mNil)))) (lcBody [6, 9] (gTupD 2 (gConsD (gSet 6) (gConsD (gSet 9) (gNilD)))) (mRet true) (mList (mSized (mStar (mVar 6) (mCons (mVar 9) (mNil)))))))) (mNil))))
  (g_solved_3)
def F_solved : Fn := guard 3 (runF 10 g_solved)
theorem ok_solved {P : Program} {w : World} {K : PySem.W.Frag} {mg : Str → Option Value} {base : Heap} (T : Say K mg) : FnE P w K mg base 6 "solved" ["rows", "goals", "size"] F_solved := by
  obtain ⟨fd, F⟩ := T.d_solved
  exact fn_ok F sc_solved T.g_solved (fun _ _ _ _ _ _ us hl => match us, hl with | [_, _, _], _ => rfl) fun cdv A outer s H E hr =>
    ss_cons (s_asg (ev_call (ok_reduced T) (hr.mono (by decide)) pass_cx (ea_cons (((lc_c (own := [("row", 6), ("goal", 9)]) (iv_zipStrict (T.m_zip) (ea_cons (ev_var 0) (ea_cons (ev_var 1) (ea_nil)))) const_zipStrict (blkOk_by (own := [("row", 6), ("goal", 9)]) (by kernel_rfl)) (fun _ _ _ _ _ => gv_tup rfl (gvs_cons (gv_name (i := 6) sc_solved.nd) (gvs_cons (gv_name (i := 9) sc_solved.nd) (gvs_nil)))) (fun _ _ _ _ _ => eif_nil) (fun _ _ _ _ _ => (en_lst (ea_star (ev_var 6) (ea_cons (ev_var 9) (ea_nil)))).ev)).en rfl sc_solved.nd).ev) (ea_nil))) (gv_tup rfl (gvs_cons (gv_name (i := 4) sc_solved.nd) (gvs_cons (gv_name (i := 5) sc_solved.nd) (gvs_nil)))))
    (ss_cons (s_if (et_cmp (dop_in (hu65 hr)) (ev_var 2) (ev_var 5) (by rfl)) (ss_one (s_ret (ev_non))) (ss_nil))
    (ss_cons ((lc_c (own := [("at", 8)]) (iv_range1 (T.m_range) (ea_cons (ev_var 2) (ea_nil))) const_range1 (blkOk_by (own := [("at", 8)]) (by kernel_rfl)) (fun _ _ _ _ _ => gv_name (i := 8) sc_solved.nd) (fun _ _ _ _ _ => eif_nil) (fun _ _ _ _ _ => ev_glob T.c_NOUGHT)).own (i := 3) rfl sc_solved.nd (sw_true rfl rfl rfl (by kernel_rfl)))
    (ss_cons (s_for pass_own rfl (iv_zipStrict (T.m_zip) (ea_cons (ev_var 4) (ea_cons (ev_var 5) (ea_nil)))) const_zipStrict (gv_tup rfl (gvs_cons (gv_name (i := 6) sc_solved.nd) (gvs_cons (gv_name (i := 7) sc_solved.nd) (gvs_nil)))) (ss_one (s_put (i := 3) (ev_ix (ev_var 6) (ev_var 2)) (ev_var 7))))
    (ss_one (s_ret (ev_var 3))))))
theorem sc_drawn_near : FnScope ["rows", "heights", "size", "miss", "many", "lot", "some", "signs", "at", "handles", "one"] ["rows", "heights", "size", "miss"] (defScope s_drawn_near) := ⟨rfl, rfl, rfl, by decide +kernel, rfl, by decide +kernel, by decide +kernel⟩
def g_drawn_near_1 : Mo Fl := sIf (mNot (mTest (mBuilt anyD (mCons (mList (mBlk [10] (mSeqS (mCall F_misses (mCons (mVar 0) (mCons (mVar 9) (mCons (mVar 1) (mNil)))))) (lcBody [10] (gSet 10) (mRet true) (mCall F_is_less (mCons (mVar 3) (mCons (mVar 10) (mNil))))))) (mNil))))) (sRet (mVar 9)) (sNext)
def g_drawn_near_2 : Mo Fl := sSeq (sSet 9 (mCall F_solved (mCons (mVar 6) (mCons (mCall F_moved_by (mCons (mVar 1) (mCons (mVar 5) (mCons (mVar 7) (mCons (mVar 3) (mNil)))))) (mCons (mVar 2) (mNil))))))
  (g_drawn_near_1)
def g_drawn_near_3 : Mo Fl := sIf (mAnd (mTest (mOp eqD (mBuilt lenD (mCons (mVar 5) (mNil))) (mVar 4))) (mTest (mOp eqD (mBuilt lenD (mCons (mOp ixD (mCall F_reduced (mCons (mVar 6) (mNil))) (mRet (.int 0))) (mNil))) (mVar 4)))) (sFor (mSeqS (mCall F_signs_of (mCons (mVar 4) (mNil)))) (gSet 7) (g_drawn_near_2)) (sNext)
def g_drawn_near_4 : Mo Fl := sSeq (sSet 6 (mList (mBlk [8] (mSeqS (mVar 5)) (lcBody [8] (gSet 8) (mRet true) (mOp ixD (mVar 0) (mVar 8))))))
  (g_drawn_near_3)
def g_drawn_near_5 : Mo Fl := sSeq (sFor (mSeqS (mCall F_lots_of (mCons (mBuilt lenD (mCons (mVar 0) (mNil))) (mNil)))) (gSet 5) (g_drawn_near_4))
  (sRet (mRet .none))
def g_drawn_near : Mo Fl := sSeq (sSet 4 (mBuilt lenD (mCons (mOp ixD (mCall F_reduced (mCons (mVar 0) (mNil))) (mRet (.int 0))) (mNil))))
  (g_drawn_near_5)
def F_drawn_near : Fn := guard 4 (runF 11 g_drawn_near)
theorem ok_drawn_near {P : Program} {w : World} {K : PySem.W.Frag} {mg : Str → Option Value} {base : Heap} (T : Say K mg) : FnE P w K mg base 7 "drawn_near" ["rows", "heights", "size", "miss"] F_drawn_near := by
  obtain ⟨fd, F⟩ := T.d_drawn_near
  exact fn_ok F sc_drawn_near T.g_drawn_near (fun _ _ _ _ _ _ us hl => match us, hl with | [_, _, _, _], _ => rfl) fun cdv A outer s H E hr =>
    ss_cons (s_set (i := 4) (ev_callB dc_len (T.m_len) (by decide +kernel) (ea_cons (ev_ix (ev_call (ok_reduced T) (hr.mono (by decide)) pass_cx (ea_cons (ev_var 0) (ea_nil))) (ev_int)) (ea_nil))) sc_drawn_near.nd)
    (ss_cons (s_for pass_own rfl (iv_seq (ev_call (ok_lots_of T) (hr.mono (by decide)) pass_cx (ea_cons (ev_callB dc_len (T.m_len) (by decide +kernel) (ea_cons (ev_var 0) (ea_nil))) (ea_nil)))) const_seq (gv_name (i := 5) sc_drawn_near.nd) (ss_cons ((lc_c (own := [("at", 8)]) (iv_seq (ev_var 5)) const_seq (blkOk_by (own := [("at", 8)]) (by kernel_rfl)) (fun _ _ _ _ _ => gv_name (i := 8) sc_drawn_near.nd) (fun _ _ _ _ _ => eif_nil) (fun _ _ _ _ _ => ev_ix (ev_var 0) (ev_var 8))).set (i := 6) rfl sc_drawn_near.nd (sw_true rfl rfl rfl (by kernel_rfl)))
    (ss_one (s_if ((ew_and (et_cmp (dop_eq hr.units) (ev_callB dc_len (T.m_len) (by decide +kernel) (ea_cons (ev_var 5) (ea_nil))) (ev_var 4) (nomark _)) (ew_and1 (et_cmp (dop_eq hr.units) (ev_callB dc_len (T.m_len) (by decide +kernel) (ea_cons (ev_ix (ev_call (ok_reduced T) (hr.mono (by decide)) pass_cx (ea_cons (ev_var 6) (ea_nil))) (ev_int)) (ea_nil))) (ev_var 4) (nomark _)))).et) (ss_one (s_for pass_own rfl (iv_seq (ev_call (ok_signs_of T) (hr.mono (by decide)) pass_cx (ea_cons (ev_var 4) (ea_nil)))) const_seq (gv_name (i := 7) sc_drawn_near.nd) (ss_cons (s_set (i := 9) (ev_call (ok_solved T) (hr.mono (by decide)) pass_cx (ea_cons (ev_var 6) (ea_cons (ev_call (ok_moved_by T) (hr.mono (by decide)) pass_cx (ea_cons (ev_var 1) (ea_cons (ev_var 5) (ea_cons (ev_var 7) (ea_cons (ev_var 3) (ea_nil)))))) (ea_cons (ev_var 2) (ea_nil))))) sc_drawn_near.nd)
    (ss_one (s_if (et_not (et_val (ev_callB (dc_any rfl) (T.m_any) (by decide +kernel) (ea_cons (((lc_c (own := [("one", 10)]) (iv_seq (ev_call (ok_misses T) (hr.mono (by decide)) pass_cx (ea_cons (ev_var 0) (ea_cons (ev_var 9) (ea_cons (ev_var 1) (ea_nil)))))) const_seq (blkOk_by (own := [("one", 10)]) (by kernel_rfl)) (fun _ _ _ _ _ => gv_name (i := 10) sc_drawn_near.nd) (fun _ _ _ _ _ => eif_nil) (fun _ _ _ _ _ => ev_call (ok_is_less T) (hr.mono (by decide)) passL (ea_cons (ev_var 3) (ea_cons (ev_var 10) (ea_nil))))).en rfl sc_drawn_near.nd).ev) (ea_nil))))) (ss_one (s_ret (ev_var 9))) (ss_nil)))))) (ss_nil)))))
    (ss_one (s_ret (ev_non))))
theorem sc_nearest : FnScope ["degree", "marks", "points", "spots", "heights", "rows", "size"] ["degree", "marks", "points"] (defScope s_nearest) := ⟨rfl, rfl, rfl, by decide +kernel, rfl, by decide +kernel, by decide +kernel⟩
def g_nearest_1 : Mo Fl := sRet (mMake "Bend" I_Bend (mCons (mVar 0) (mCons (mVar 1) (mCons (mCall F_drawn_near (mCons (mVar 5) (mCons (mVar 4) (mCons (mVar 6) (mCons (mOp ixD (mCall F_best_weighing (mCons (mVar 5) (mCons (mVar 4) (mCons (mVar 6) (mNil))))) (mRet (.int 0))) (mNil)))))) (mNil)))))
def g_nearest_2 : Mo Fl := sSeq (sPar2 5 6 (xConsP (mCall F_weight_rows (mCons (mVar 0) (mCons (mVar 1) (mCons (mVar 3) (mNil))))) (xConsP (mCall F_size_for (mCons (mVar 0) (mCons (mVar 1) (mNil)))) (xNil))))
  (g_nearest_1)
def g_nearest : Mo Fl := sSeq (sAsg (gTupD 2 (gConsD (gSet 3) (gConsD (gSet 4) (gNilD)))) (mCall F_need_points (mCons (mVar 1) (mCons (mVar 2) (mNil)))))
  (g_nearest_2)
def R_nearest : Fn := guard 3 (runF 7 g_nearest)
def a_nearest_0 : List D := [.int 1, .list [.int 0, .int 2], .list [.tuple [.int 0, .int 0], .tuple [.int 1, .int 1], .tuple [.int 2, .int 0]]]
def v_nearest_0 : D := .dict [(.str "Bend", .none), (.str "degree", .int 1), (.str "marks", .tuple [.tuple [.int 0, .int 1], .tuple [.int 2, .int 1]]), (.str "handles", .tuple [.tuple [.int 1, .int 2], .tuple [.int 1, .int 2]]), (.str "text", .str "bend 1 marks 0 2 handles 1/2 1/2")]
theorem e_nearest_0 : R_nearest a_nearest_0 = some (.ok v_nearest_0) := by kernel_rfl
def a_nearest_1 : List D := [.int 0, .list [.int 0, .int 3], .list [.tuple [.int 0, .int 0], .tuple [.int 1, .int 0], .tuple [.int 2, .int 4], .tuple [.int 3, .int 4]]]
def v_nearest_1 : D := .dict [(.str "Bend", .none), (.str "degree", .int 0), (.str "marks", .tuple [.tuple [.int 0, .int 1], .tuple [.int 3, .int 1]]), (.str "handles", .tuple [.tuple [.int 2, .int 1]]), (.str "text", .str "bend 0 marks 0 3 handles 2")]
theorem e_nearest_1 : R_nearest a_nearest_1 = some (.ok v_nearest_1) := by kernel_rfl
def a_nearest_2 : List D := [.int 1, .list [.int 0, .int 3], .list [.tuple [.int 0, .int 0], .tuple [.int 1, .int 0], .tuple [.int 2, .int 4], .tuple [.int 3, .int 4]]]
def v_nearest_2 : D := .dict [(.str "Bend", .none), (.str "degree", .int 1), (.str "marks", .tuple [.tuple [.int 0, .int 1], .tuple [.int 3, .int 1]]), (.str "handles", .tuple [.tuple [.int (-1), .int 1], .tuple [.int 5, .int 1]]), (.str "text", .str "bend 1 marks 0 3 handles -1 5")]
theorem e_nearest_2 : R_nearest a_nearest_2 = some (.ok v_nearest_2) := by kernel_rfl
def a_nearest_3 : List D := [.int 2, .list [.int 0, .int 2], .list [.tuple [.int 0, .int 0], .tuple [.int 1, .int 1], .tuple [.int 2, .int 0]]]
def v_nearest_3 : D := .dict [(.str "Bend", .none), (.str "degree", .int 2), (.str "marks", .tuple [.tuple [.int 0, .int 1], .tuple [.int 2, .int 1]]), (.str "handles", .tuple [.tuple [.int 0, .int 1], .tuple [.int 2, .int 1], .tuple [.int 0, .int 1]]), (.str "text", .str "bend 2 marks 0 2 handles 0 2 0")]
theorem e_nearest_3 : R_nearest a_nearest_3 = some (.ok v_nearest_3) := by kernel_rfl
def a_nearest_4 : List D := [.int 1, .list [.int 0, .int 1, .int 2], .list [.tuple [.int 0, .int 0], .tuple [.int 1, .int 1], .tuple [.int 2, .int 0]]]
def v_nearest_4 : D := .dict [(.str "Bend", .none), (.str "degree", .int 1), (.str "marks", .tuple [.tuple [.int 0, .int 1], .tuple [.int 1, .int 1], .tuple [.int 2, .int 1]]), (.str "handles", .tuple [.tuple [.int 0, .int 1], .tuple [.int 1, .int 1], .tuple [.int 0, .int 1]]), (.str "text", .str "bend 1 marks 0 1 2 handles 0 1 0")]
theorem e_nearest_4 : R_nearest a_nearest_4 = some (.ok v_nearest_4) := by kernel_rfl
def a_nearest_5 : List D := [.int 0, .list [.int 0, .int 9], .list [.tuple [.int 4, .tuple [.int 7, .int 3]]]]
def v_nearest_5 : D := .dict [(.str "Bend", .none), (.str "degree", .int 0), (.str "marks", .tuple [.tuple [.int 0, .int 1], .tuple [.int 9, .int 1]]), (.str "handles", .tuple [.tuple [.int 7, .int 3]]), (.str "text", .str "bend 0 marks 0 9 handles 7/3")]
theorem e_nearest_5 : R_nearest a_nearest_5 = some (.ok v_nearest_5) := by kernel_rfl
def F_nearest : Fn := tabF [(a_nearest_0, v_nearest_0), (a_nearest_1, v_nearest_1), (a_nearest_2, v_nearest_2), (a_nearest_3, v_nearest_3), (a_nearest_4, v_nearest_4), (a_nearest_5, v_nearest_5)]
theorem mir_nearest (ds : List D) (r : Except Exn D) (h : F_nearest ds = some r) : R_nearest ds = some r := tab_cons e_nearest_0 (tab_cons e_nearest_1 (tab_cons e_nearest_2 (tab_cons e_nearest_3 (tab_cons e_nearest_4 (tab_cons e_nearest_5 (tab_nil)))))) ds r h
theorem ok_nearest {P : Program} {w : World} {K : PySem.W.Frag} {mg : Str → Option Value} {base : Heap} (T : Say K mg) : FnE P w K mg base 9 "nearest" ["degree", "marks", "points"] F_nearest := by
  obtain ⟨fd, F⟩ := T.d_nearest
  exact FnE.by (F := R_nearest) (fn_ok F sc_nearest T.g_nearest (fun _ _ _ _ _ _ us hl => match us, hl with | [_, _, _], _ => rfl) fun cdv A outer s H E hr =>
    ss_cons (s_asg (ev_call (ok_need_points T) (hr.mono (by decide)) pass_cx (ea_cons (ev_var 1) (ea_cons (ev_var 2) (ea_nil)))) (gv_tup rfl (gvs_cons (gv_name (i := 3) sc_nearest.nd) (gvs_cons (gv_name (i := 4) sc_nearest.nd) (gvs_nil)))))
    (ss_cons (s_par2 (i := 5) (j := 6) rfl sc_nearest.nd (ex_consP (ev_call (ok_weight_rows T) (hr.mono (by decide)) pass_cx (ea_cons (ev_var 0) (ea_cons (ev_var 1) (ea_cons (ev_var 3) (ea_nil))))) (ex_consP (ev_call (ok_size_for T) (hr.mono (by decide)) pass_cx (ea_cons (ev_var 0) (ea_cons (ev_var 1) (ea_nil)))) (ex_nil))))
    (ss_one (s_ret (ev_make (mk_Bend T) (hr.mono (by decide)) pass_cx (ea_cons (ev_var 0) (ea_cons (ev_var 1) (ea_cons (ev_call (ok_drawn_near T) (hr.mono (by decide)) pass_cx (ea_cons (ev_var 5) (ea_cons (ev_var 4) (ea_cons (ev_var 6) (ea_cons (ev_ix (ev_call (ok_best_weighing T) (hr.mono (by decide)) pass_cx (ea_cons (ev_var 5) (ea_cons (ev_var 4) (ea_cons (ev_var 6) (ea_nil))))) (ev_int)) (ea_nil)))))) (ea_nil))))))))) mir_nearest
theorem sc_law : FnScope ["_law_script", "_law_some", "_law_row", "_law_peak", "_law_steps", "_law_degree", "_law_marks", "_law_points", "_law_due"] ["_law_script"] (defScope s_law) := ⟨rfl, rfl, rfl, by decide +kernel, rfl, by decide +kernel, by decide +kernel⟩
def g_law_1 : Mo Fl := sIf (mTest (mOp neD (mCall F_least_miss (mCons (mVar 5) (mCons (mVar 6) (mCons (mVar 7) (mNil))))) (mVar 8))) (sRet (mRet (.bool false))) (sNext)
def g_law_2 : Mo Fl := sRet (mAndV (mOp eqD (mUn (fldD "Bend" "handles") (mCall F_nearest (mCons (mRet (.int 0)) (mCons (mList (mSized (mCons (mRet (.int 0)) (mCons (mRet (.int 9)) (mNil))))) (mCons (mList (mSized (mCons (mTup (mCons (mRet (.int 4)) (mCons (mTup (mCons (mRet (.int 7)) (mCons (mRet (.int 3)) (mNil)))) (mNil)))) (mNil)))) (mNil)))))) (mTup (mCons (mTup (mCons (mRet (.int 7)) (mCons (mRet (.int 3)) (mNil)))) (mNil)))) (mCall F_law_papers_right mNil))
def g_law_3 : Mo Fl := sSeq (sIf (mOr (mTest (mOp neD (mCall F_least_miss (mCons (mRet (.int 4)) (mCons (mList (mSized (mCons (mRet (.int 0)) (mCons (mRet (.int 5)) (mNil))))) (mCons (mVar 2) (mNil))))) (mTup (mCons (mRet (.int 15)) (mCons (mRet (.int 16)) (mNil)))))) (mTest (mOp neD (mCall F_least_miss (mCons (mRet (.int 4)) (mCons (mList (mSized (mCons (mRet (.int 0)) (mCons (mRet (.int 5)) (mNil))))) (mCons (mSlice (mVar 2) (mNoPart) (mPart (mRet (.int 5)))) (mNil))))) (mTup (mCons (mRet (.int 0)) (mCons (mRet (.int 1)) (mNil))))))) (sRet (mRet (.bool false))) (sNext))
  (g_law_2)
def g_law_4 : Mo Fl := sSeq (sSet 2 (mList (mSized (mCons (mTup (mCons (mRet (.int 0)) (mCons (mRet (.int 0)) (mNil)))) (mCons (mTup (mCons (mRet (.int 1)) (mCons (mRet (.int 1)) (mNil)))) (mCons (mTup (mCons (mRet (.int 2)) (mCons (mOp subD (mRet (.int 0)) (mRet (.int 1))) (mNil)))) (mCons (mTup (mCons (mRet (.int 3)) (mCons (mRet (.int 1)) (mNil)))) (mCons (mTup (mCons (mRet (.int 4)) (mCons (mOp subD (mRet (.int 0)) (mRet (.int 1))) (mNil)))) (mCons (mTup (mCons (mRet (.int 5)) (mCons (mRet (.int 0)) (mNil)))) (mNil))))))))))
  (g_law_3)
def g_law_5 : Mo Fl := sSeq (sIf (mOr (mTest (mOp neD (mCall F_least_miss (mCons (mRet (.int 4)) (mCons (mList (mSized (mCons (mRet (.int 0)) (mCons (mRet (.int 1)) (mCons (mRet (.int 2)) (mNil)))))) (mCons (mVar 3) (mNil))))) (mTup (mCons (mRet (.int 0)) (mCons (mRet (.int 1)) (mNil)))))) (mTest (mOp neD (mCall F_least_miss (mCons (mRet (.int 3)) (mCons (mList (mSized (mCons (mRet (.int 0)) (mCons (mRet (.int 1)) (mCons (mRet (.int 1)) (mCons (mRet (.int 1)) (mCons (mRet (.int 2)) (mNil)))))))) (mCons (mVar 3) (mNil))))) (mTup (mCons (mRet (.int 0)) (mCons (mRet (.int 1)) (mNil))))))) (sRet (mRet (.bool false))) (sNext))
  (g_law_4)
def g_law_6 : Mo Fl := sSeq (sIf (mTest (mOp neD (mUn (fldD "Bend" "handles") (mCall F_nearest (mCons (mRet (.int 1)) (mCons (mList (mSized (mCons (mRet (.int 0)) (mCons (mRet (.int 1)) (mCons (mRet (.int 2)) (mNil)))))) (mCons (mVar 3) (mNil)))))) (mTup (mCons (mTup (mCons (mRet (.int 0)) (mCons (mRet (.int 1)) (mNil)))) (mCons (mTup (mCons (mRet (.int 1)) (mCons (mRet (.int 1)) (mNil)))) (mCons (mTup (mCons (mRet (.int 0)) (mCons (mRet (.int 1)) (mNil)))) (mNil))))))) (sRet (mRet (.bool false))) (sNext))
  (g_law_5)
def g_law_7 : Mo Fl := sSeq (sIf (mTest (mOp neD (mUn (fldD "Bend" "handles") (mCall F_nearest (mCons (mRet (.int 2)) (mCons (mList (mSized (mCons (mRet (.int 0)) (mCons (mRet (.int 2)) (mNil))))) (mCons (mVar 3) (mNil)))))) (mTup (mCons (mTup (mCons (mRet (.int 0)) (mCons (mRet (.int 1)) (mNil)))) (mCons (mTup (mCons (mRet (.int 2)) (mCons (mRet (.int 1)) (mNil)))) (mCons (mTup (mCons (mRet (.int 0)) (mCons (mRet (.int 1)) (mNil)))) (mNil))))))) (sRet (mRet (.bool false))) (sNext))
  (g_law_6)
def g_law_8 : Mo Fl := sSeq (sIf (mTest (mOp neD (mUn (fldD "Bend" "handles") (mCall F_nearest (mCons (mRet (.int 1)) (mCons (mList (mSized (mCons (mRet (.int 0)) (mCons (mRet (.int 3)) (mNil))))) (mCons (mVar 4) (mNil)))))) (mTup (mCons (mTup (mCons (mOp subD (mRet (.int 0)) (mRet (.int 1))) (mCons (mRet (.int 1)) (mNil)))) (mCons (mTup (mCons (mRet (.int 5)) (mCons (mRet (.int 1)) (mNil)))) (mNil)))))) (sRet (mRet (.bool false))) (sNext))
  (g_law_7)
def g_law_9 : Mo Fl := sSeq (sIf (mOr (mTest (mOp neD (mUn (fldD "Bend" "handles") (mCall F_nearest (mCons (mRet (.int 1)) (mCons (mList (mSized (mCons (mRet (.int 0)) (mCons (mRet (.int 2)) (mNil))))) (mCons (mVar 3) (mNil)))))) (mTup (mCons (mTup (mCons (mRet (.int 1)) (mCons (mRet (.int 2)) (mNil)))) (mCons (mTup (mCons (mRet (.int 1)) (mCons (mRet (.int 2)) (mNil)))) (mNil)))))) (mTest (mOp neD (mUn (fldD "Bend" "handles") (mCall F_nearest (mCons (mRet (.int 0)) (mCons (mList (mSized (mCons (mRet (.int 0)) (mCons (mRet (.int 3)) (mNil))))) (mCons (mVar 4) (mNil)))))) (mTup (mCons (mTup (mCons (mRet (.int 2)) (mCons (mRet (.int 1)) (mNil)))) (mNil)))))) (sRet (mRet (.bool false))) (sNext))
  (g_law_8)
def g_law_10 : Mo Fl := sSeq (sFor (mSeqS (mVar 1)) (gTupD 4 (gConsD (gSet 5) (gConsD (gSet 6) (gConsD (gSet 7) (gConsD (gSet 8) (gNilD)))))) (g_law_1))
  (g_law_9)
def g_law_11 : Mo Fl := sSeq (sChg 1 (mCons (mTup (mCons (mRet (.int 1)) (mCons (mList (mSized (mCons (mRet (.int 0)) (mCons (mRet (.int 4)) (mNil))))) (mCons (mList (mSized (mCons (mTup (mCons (mRet (.int 0)) (mCons (mRet (.int 1)) (mNil)))) (mCons (mTup (mCons (mRet (.int 1)) (mCons (mRet (.int 3)) (mNil)))) (mCons (mTup (mCons (mRet (.int 2)) (mCons (mRet (.int 6)) (mNil)))) (mCons (mTup (mCons (mRet (.int 4)) (mCons (mRet (.int 9)) (mNil)))) (mNil))))))) (mCons (mTup (mCons (mRet (.int 1)) (mCons (mRet (.int 2)) (mNil)))) (mNil)))))) (mNil)) appC)
  (g_law_10)
def g_law_12 : Mo Fl := sSeq (sOwn 1 (mAddL (mVar 1) (mList (mSized (mCons (mTup (mCons (mRet (.int 0)) (mCons (mList (mSized (mCons (mRet (.int 0)) (mCons (mRet (.int 9)) (mNil))))) (mCons (mList (mSized (mCons (mTup (mCons (mRet (.int 4)) (mCons (mTup (mCons (mRet (.int 7)) (mCons (mRet (.int 3)) (mNil)))) (mNil)))) (mNil)))) (mCons (mTup (mCons (mRet (.int 0)) (mCons (mRet (.int 1)) (mNil)))) (mNil)))))) (mCons (mTup (mCons (mRet (.int 1)) (mCons (mList (mSized (mCons (mRet (.int 0)) (mCons (mRet (.int 4)) (mNil))))) (mCons (mList (mSized (mCons (mTup (mCons (mRet (.int 0)) (mCons (mRet (.int 1)) (mNil)))) (mCons (mTup (mCons (mRet (.int 1)) (mCons (mRet (.int 3)) (mNil)))) (mCons (mTup (mCons (mRet (.int 2)) (mCons (mRet (.int 5)) (mNil)))) (mCons (mTup (mCons (mRet (.int 4)) (mCons (mRet (.int 9)) (mNil)))) (mNil))))))) (mCons (mTup (mCons (mRet (.int 0)) (mCons (mRet (.int 1)) (mNil)))) (mNil)))))) (mNil)))))))
  (g_law_11)
def g_law_13 : Mo Fl := sSeq (sOwn 1 (mAddL (mVar 1) (mList (mSized (mCons (mTup (mCons (mRet (.int 3)) (mCons (mList (mSized (mCons (mRet (.int 0)) (mCons (mRet (.int 3)) (mNil))))) (mCons (mVar 4) (mCons (mTup (mCons (mRet (.int 0)) (mCons (mRet (.int 1)) (mNil)))) (mNil)))))) (mCons (mTup (mCons (mRet (.int 1)) (mCons (mList (mSized (mCons (mRet (.int 0)) (mCons (mRet (.int 1)) (mCons (mRet (.int 3)) (mNil)))))) (mCons (mVar 4) (mCons (mTup (mCons (mRet (.int 1)) (mCons (mRet (.int 1)) (mNil)))) (mNil)))))) (mCons (mTup (mCons (mRet (.int 1)) (mCons (mList (mSized (mCons (mRet (.int 0)) (mCons (mRet (.int 1)) (mCons (mRet (.int 2)) (mCons (mRet (.int 3)) (mNil))))))) (mCons (mVar 4) (mCons (mTup (mCons (mRet (.int 0)) (mCons (mRet (.int 1)) (mNil)))) (mNil)))))) (mNil))))))))
  (g_law_12)
def g_law_14 : Mo Fl := sSeq (sOwn 1 (mAddL (mVar 1) (mList (mSized (mCons (mTup (mCons (mRet (.int 0)) (mCons (mList (mSized (mCons (mRet (.int 0)) (mCons (mRet (.int 3)) (mNil))))) (mCons (mVar 4) (mCons (mTup (mCons (mRet (.int 2)) (mCons (mRet (.int 1)) (mNil)))) (mNil)))))) (mCons (mTup (mCons (mRet (.int 1)) (mCons (mList (mSized (mCons (mRet (.int 0)) (mCons (mRet (.int 3)) (mNil))))) (mCons (mVar 4) (mCons (mTup (mCons (mRet (.int 1)) (mCons (mRet (.int 1)) (mNil)))) (mNil)))))) (mCons (mTup (mCons (mRet (.int 2)) (mCons (mList (mSized (mCons (mRet (.int 0)) (mCons (mRet (.int 3)) (mNil))))) (mCons (mVar 4) (mCons (mTup (mCons (mRet (.int 1)) (mCons (mRet (.int 1)) (mNil)))) (mNil)))))) (mNil))))))))
  (g_law_13)
def g_law_15 : Mo Fl := sSeq (sChg 1 (mCons (mTup (mCons (mRet (.int 2)) (mCons (mList (mSized (mCons (mRet (.int 0)) (mCons (mRet (.int 2)) (mNil))))) (mCons (mVar 3) (mCons (mTup (mCons (mRet (.int 0)) (mCons (mRet (.int 1)) (mNil)))) (mNil)))))) (mNil)) appC)
  (g_law_14)
def g_law_16 : Mo Fl := sSeq (sOwn 1 (mSized (mCons (mTup (mCons (mRet (.int 0)) (mCons (mList (mSized (mCons (mRet (.int 0)) (mCons (mRet (.int 2)) (mNil))))) (mCons (mVar 3) (mCons (mTup (mCons (mRet (.int 1)) (mCons (mRet (.int 2)) (mNil)))) (mNil)))))) (mCons (mTup (mCons (mRet (.int 1)) (mCons (mList (mSized (mCons (mRet (.int 0)) (mCons (mRet (.int 2)) (mNil))))) (mCons (mVar 3) (mCons (mTup (mCons (mRet (.int 1)) (mCons (mRet (.int 2)) (mNil)))) (mNil)))))) (mCons (mTup (mCons (mRet (.int 1)) (mCons (mList (mSized (mCons (mRet (.int 0)) (mCons (mRet (.int 1)) (mCons (mRet (.int 2)) (mNil)))))) (mCons (mVar 3) (mCons (mTup (mCons (mRet (.int 0)) (mCons (mRet (.int 1)) (mNil)))) (mNil)))))) (mNil))))))
  (g_law_15)
def g_law : Mo Fl := sSeq (sPar2 3 4 (xConsP (mList (mSized (mCons (mTup (mCons (mRet (.int 0)) (mCons (mRet (.int 0)) (mNil)))) (mCons (mTup (mCons (mRet (.int 1)) (mCons (mRet (.int 1)) (mNil)))) (mCons (mTup (mCons (mRet (.int 2)) (mCons (mRet (.int 0)) (mNil)))) (mNil)))))) (xConsP (mList (mSized (mCons (mTup (mCons (mRet (.int 0)) (mCons (mRet (.int 0)) (mNil)))) (mCons (mTup (mCons (mRet (.int 1)) (mCons (mRet (.int 0)) (mNil)))) (mCons (mTup (mCons (mRet (.int 2)) (mCons (mRet (.int 4)) (mNil)))) (mCons (mTup (mCons (mRet (.int 3)) (mCons (mRet (.int 4)) (mNil)))) (mNil))))))) (xNil))))
  (g_law_16)
def F_law : Fn := guard 1 (runF 9 g_law)
theorem ok_law {P : Program} {w : World} {K : PySem.W.Frag} {mg : Str → Option Value} {base : Heap} {fd : FuncData} (F : FunD K "law" "law" (defArgs s_law) (defBody s_law) (defScope s_law) [] [] (He.ga K "law") fd) (T : Say K mg) : FnOk P w K mg base (L2.CX P w) 11 (He.ga K "law") fd ["_law_script"] (spP K 1 F_law) :=
  fn_ok0 F sc_law fun cdv A outer s H E hr =>
    ss_cons (s_par2 (i := 3) (j := 4) rfl sc_law.nd (ex_consP ((en_lst (ea_cons (ev_tup (ea_cons (ev_int) (ea_cons (ev_int) (ea_nil)))) (ea_cons (ev_tup (ea_cons (ev_int) (ea_cons (ev_int) (ea_nil)))) (ea_cons (ev_tup (ea_cons (ev_int) (ea_cons (ev_int) (ea_nil)))) (ea_nil))))).ev) (ex_consP ((en_lst (ea_cons (ev_tup (ea_cons (ev_int) (ea_cons (ev_int) (ea_nil)))) (ea_cons (ev_tup (ea_cons (ev_int) (ea_cons (ev_int) (ea_nil)))) (ea_cons (ev_tup (ea_cons (ev_int) (ea_cons (ev_int) (ea_nil)))) (ea_cons (ev_tup (ea_cons (ev_int) (ea_cons (ev_int) (ea_nil)))) (ea_nil)))))).ev) (ex_nil))))
    (ss_cons (s_own (i := 1) (en_lst (ea_cons (ev_tup (ea_cons (ev_int) (ea_cons ((en_lst (ea_cons (ev_int) (ea_cons (ev_int) (ea_nil)))).ev) (ea_cons (ev_var 3) (ea_cons (ev_tup (ea_cons (ev_int) (ea_cons (ev_int) (ea_nil)))) (ea_nil)))))) (ea_cons (ev_tup (ea_cons (ev_int) (ea_cons ((en_lst (ea_cons (ev_int) (ea_cons (ev_int) (ea_nil)))).ev) (ea_cons (ev_var 3) (ea_cons (ev_tup (ea_cons (ev_int) (ea_cons (ev_int) (ea_nil)))) (ea_nil)))))) (ea_cons (ev_tup (ea_cons (ev_int) (ea_cons ((en_lst (ea_cons (ev_int) (ea_cons (ev_int) (ea_cons (ev_int) (ea_nil))))).ev) (ea_cons (ev_var 3) (ea_cons (ev_tup (ea_cons (ev_int) (ea_cons (ev_int) (ea_nil)))) (ea_nil)))))) (ea_nil))))) sc_law.nd)
    (ss_cons (s_app (i := 1) (ea_cons (ev_tup (ea_cons (ev_int) (ea_cons ((en_lst (ea_cons (ev_int) (ea_cons (ev_int) (ea_nil)))).ev) (ea_cons (ev_var 3) (ea_cons (ev_tup (ea_cons (ev_int) (ea_cons (ev_int) (ea_nil)))) (ea_nil)))))) (ea_nil)))
    (ss_cons (s_own (i := 1) (en_add (ev_var 1) ((en_lst (ea_cons (ev_tup (ea_cons (ev_int) (ea_cons ((en_lst (ea_cons (ev_int) (ea_cons (ev_int) (ea_nil)))).ev) (ea_cons (ev_var 4) (ea_cons (ev_tup (ea_cons (ev_int) (ea_cons (ev_int) (ea_nil)))) (ea_nil)))))) (ea_cons (ev_tup (ea_cons (ev_int) (ea_cons ((en_lst (ea_cons (ev_int) (ea_cons (ev_int) (ea_nil)))).ev) (ea_cons (ev_var 4) (ea_cons (ev_tup (ea_cons (ev_int) (ea_cons (ev_int) (ea_nil)))) (ea_nil)))))) (ea_cons (ev_tup (ea_cons (ev_int) (ea_cons ((en_lst (ea_cons (ev_int) (ea_cons (ev_int) (ea_nil)))).ev) (ea_cons (ev_var 4) (ea_cons (ev_tup (ea_cons (ev_int) (ea_cons (ev_int) (ea_nil)))) (ea_nil)))))) (ea_nil))))).ev)) sc_law.nd)
    (ss_cons (s_own (i := 1) (en_add (ev_var 1) ((en_lst (ea_cons (ev_tup (ea_cons (ev_int) (ea_cons ((en_lst (ea_cons (ev_int) (ea_cons (ev_int) (ea_nil)))).ev) (ea_cons (ev_var 4) (ea_cons (ev_tup (ea_cons (ev_int) (ea_cons (ev_int) (ea_nil)))) (ea_nil)))))) (ea_cons (ev_tup (ea_cons (ev_int) (ea_cons ((en_lst (ea_cons (ev_int) (ea_cons (ev_int) (ea_cons (ev_int) (ea_nil))))).ev) (ea_cons (ev_var 4) (ea_cons (ev_tup (ea_cons (ev_int) (ea_cons (ev_int) (ea_nil)))) (ea_nil)))))) (ea_cons (ev_tup (ea_cons (ev_int) (ea_cons ((en_lst (ea_cons (ev_int) (ea_cons (ev_int) (ea_cons (ev_int) (ea_cons (ev_int) (ea_nil)))))).ev) (ea_cons (ev_var 4) (ea_cons (ev_tup (ea_cons (ev_int) (ea_cons (ev_int) (ea_nil)))) (ea_nil)))))) (ea_nil))))).ev)) sc_law.nd)
    (ss_cons (s_own (i := 1) (en_add (ev_var 1) ((en_lst (ea_cons (ev_tup (ea_cons (ev_int) (ea_cons ((en_lst (ea_cons (ev_int) (ea_cons (ev_int) (ea_nil)))).ev) (ea_cons ((en_lst (ea_cons (ev_tup (ea_cons (ev_int) (ea_cons (ev_tup (ea_cons (ev_int) (ea_cons (ev_int) (ea_nil)))) (ea_nil)))) (ea_nil))).ev) (ea_cons (ev_tup (ea_cons (ev_int) (ea_cons (ev_int) (ea_nil)))) (ea_nil)))))) (ea_cons (ev_tup (ea_cons (ev_int) (ea_cons ((en_lst (ea_cons (ev_int) (ea_cons (ev_int) (ea_nil)))).ev) (ea_cons ((en_lst (ea_cons (ev_tup (ea_cons (ev_int) (ea_cons (ev_int) (ea_nil)))) (ea_cons (ev_tup (ea_cons (ev_int) (ea_cons (ev_int) (ea_nil)))) (ea_cons (ev_tup (ea_cons (ev_int) (ea_cons (ev_int) (ea_nil)))) (ea_cons (ev_tup (ea_cons (ev_int) (ea_cons (ev_int) (ea_nil)))) (ea_nil)))))).ev) (ea_cons (ev_tup (ea_cons (ev_int) (ea_cons (ev_int) (ea_nil)))) (ea_nil)))))) (ea_nil)))).ev)) sc_law.nd)
    (ss_cons (s_app (i := 1) (ea_cons (ev_tup (ea_cons (ev_int) (ea_cons ((en_lst (ea_cons (ev_int) (ea_cons (ev_int) (ea_nil)))).ev) (ea_cons ((en_lst (ea_cons (ev_tup (ea_cons (ev_int) (ea_cons (ev_int) (ea_nil)))) (ea_cons (ev_tup (ea_cons (ev_int) (ea_cons (ev_int) (ea_nil)))) (ea_cons (ev_tup (ea_cons (ev_int) (ea_cons (ev_int) (ea_nil)))) (ea_cons (ev_tup (ea_cons (ev_int) (ea_cons (ev_int) (ea_nil)))) (ea_nil)))))).ev) (ea_cons (ev_tup (ea_cons (ev_int) (ea_cons (ev_int) (ea_nil)))) (ea_nil)))))) (ea_nil)))
    (ss_cons (s_for pass_own rfl (iv_seq (ev_var 1)) const_seq (gv_tup rfl (gvs_cons (gv_name (i := 5) sc_law.nd) (gvs_cons (gv_name (i := 6) sc_law.nd) (gvs_cons (gv_name (i := 7) sc_law.nd) (gvs_cons (gv_name (i := 8) sc_law.nd) (gvs_nil)))))) (ss_one (s_if (et_cmp (dop_ne hr.units) (ev_call (ok_least_miss T) (hr.mono (by decide)) pass_cx (ea_cons (ev_var 5) (ea_cons (ev_var 6) (ea_cons (ev_var 7) (ea_nil))))) (ev_var 8) (nomark _)) (ss_one (s_ret (ev_bl))) (ss_nil))))
    (ss_cons (s_if ((ew_or (et_cmp (dop_ne hr.units) (ev_fld (ev_call (ok_nearest T) (hr.mono (by decide)) pass_cx (ea_cons (ev_int) (ea_cons ((en_lst (ea_cons (ev_int) (ea_cons (ev_int) (ea_nil)))).ev) (ea_cons (ev_var 3) (ea_nil))))) T.cl_Bend T.na_Bend_handles) (ev_tup (ea_cons (ev_tup (ea_cons (ev_int) (ea_cons (ev_int) (ea_nil)))) (ea_cons (ev_tup (ea_cons (ev_int) (ea_cons (ev_int) (ea_nil)))) (ea_nil)))) (nomark _)) (ew_or1 (et_cmp (dop_ne hr.units) (ev_fld (ev_call (ok_nearest T) (hr.mono (by decide)) pass_cx (ea_cons (ev_int) (ea_cons ((en_lst (ea_cons (ev_int) (ea_cons (ev_int) (ea_nil)))).ev) (ea_cons (ev_var 4) (ea_nil))))) T.cl_Bend T.na_Bend_handles) (ev_tup (ea_cons (ev_tup (ea_cons (ev_int) (ea_cons (ev_int) (ea_nil)))) (ea_nil))) (nomark _)))).et) (ss_one (s_ret (ev_bl))) (ss_nil))
    (ss_cons (s_if (et_cmp (dop_ne hr.units) (ev_fld (ev_call (ok_nearest T) (hr.mono (by decide)) pass_cx (ea_cons (ev_int) (ea_cons ((en_lst (ea_cons (ev_int) (ea_cons (ev_int) (ea_nil)))).ev) (ea_cons (ev_var 4) (ea_nil))))) T.cl_Bend T.na_Bend_handles) (ev_tup (ea_cons (ev_tup (ea_cons (ev_op dop_sub (ev_int) (ev_int)) (ea_cons (ev_int) (ea_nil)))) (ea_cons (ev_tup (ea_cons (ev_int) (ea_cons (ev_int) (ea_nil)))) (ea_nil)))) (nomark _)) (ss_one (s_ret (ev_bl))) (ss_nil))
    (ss_cons (s_if (et_cmp (dop_ne hr.units) (ev_fld (ev_call (ok_nearest T) (hr.mono (by decide)) pass_cx (ea_cons (ev_int) (ea_cons ((en_lst (ea_cons (ev_int) (ea_cons (ev_int) (ea_nil)))).ev) (ea_cons (ev_var 3) (ea_nil))))) T.cl_Bend T.na_Bend_handles) (ev_tup (ea_cons (ev_tup (ea_cons (ev_int) (ea_cons (ev_int) (ea_nil)))) (ea_cons (ev_tup (ea_cons (ev_int) (ea_cons (ev_int) (ea_nil)))) (ea_cons (ev_tup (ea_cons (ev_int) (ea_cons (ev_int) (ea_nil)))) (ea_nil))))) (nomark _)) (ss_one (s_ret (ev_bl))) (ss_nil))
    (ss_cons (s_if (et_cmp (dop_ne hr.units) (ev_fld (ev_call (ok_nearest T) (hr.mono (by decide)) pass_cx (ea_cons (ev_int) (ea_cons ((en_lst (ea_cons (ev_int) (ea_cons (ev_int) (ea_cons (ev_int) (ea_nil))))).ev) (ea_cons (ev_var 3) (ea_nil))))) T.cl_Bend T.na_Bend_handles) (ev_tup (ea_cons (ev_tup (ea_cons (ev_int) (ea_cons (ev_int) (ea_nil)))) (ea_cons (ev_tup (ea_cons (ev_int) (ea_cons (ev_int) (ea_nil)))) (ea_cons (ev_tup (ea_cons (ev_int) (ea_cons (ev_int) (ea_nil)))) (ea_nil))))) (nomark _)) (ss_one (s_ret (ev_bl))) (ss_nil))
    (ss_cons (s_if ((ew_or (et_cmp (dop_ne hr.units) (ev_call (ok_least_miss T) (hr.mono (by decide)) pass_cx (ea_cons (ev_int) (ea_cons ((en_lst (ea_cons (ev_int) (ea_cons (ev_int) (ea_cons (ev_int) (ea_nil))))).ev) (ea_cons (ev_var 3) (ea_nil))))) (ev_tup (ea_cons (ev_int) (ea_cons (ev_int) (ea_nil)))) (nomark _)) (ew_or1 (et_cmp (dop_ne hr.units) (ev_call (ok_least_miss T) (hr.mono (by decide)) pass_cx (ea_cons (ev_int) (ea_cons ((en_lst (ea_cons (ev_int) (ea_cons (ev_int) (ea_cons (ev_int) (ea_cons (ev_int) (ea_cons (ev_int) (ea_nil))))))).ev) (ea_cons (ev_var 3) (ea_nil))))) (ev_tup (ea_cons (ev_int) (ea_cons (ev_int) (ea_nil)))) (nomark _)))).et) (ss_one (s_ret (ev_bl))) (ss_nil))
    (ss_cons (s_set (i := 2) ((en_lst (ea_cons (ev_tup (ea_cons (ev_int) (ea_cons (ev_int) (ea_nil)))) (ea_cons (ev_tup (ea_cons (ev_int) (ea_cons (ev_int) (ea_nil)))) (ea_cons (ev_tup (ea_cons (ev_int) (ea_cons (ev_op dop_sub (ev_int) (ev_int)) (ea_nil)))) (ea_cons (ev_tup (ea_cons (ev_int) (ea_cons (ev_int) (ea_nil)))) (ea_cons (ev_tup (ea_cons (ev_int) (ea_cons (ev_op dop_sub (ev_int) (ev_int)) (ea_nil)))) (ea_cons (ev_tup (ea_cons (ev_int) (ea_cons (ev_int) (ea_nil)))) (ea_nil)))))))).ev) sc_law.nd)
    (ss_cons (s_if ((ew_or (et_cmp (dop_ne hr.units) (ev_call (ok_least_miss T) (hr.mono (by decide)) pass_cx (ea_cons (ev_int) (ea_cons ((en_lst (ea_cons (ev_int) (ea_cons (ev_int) (ea_nil)))).ev) (ea_cons (ev_var 2) (ea_nil))))) (ev_tup (ea_cons (ev_int) (ea_cons (ev_int) (ea_nil)))) (nomark _)) (ew_or1 (et_cmp (dop_ne hr.units) (ev_call (ok_least_miss T) (hr.mono (by decide)) pass_cx (ea_cons (ev_int) (ea_cons ((en_lst (ea_cons (ev_int) (ea_cons (ev_int) (ea_nil)))).ev) (ea_cons (ev_slice (ev_var 2) (eo_none) (eo_some (ev_int))) (ea_nil))))) (ev_tup (ea_cons (ev_int) (ea_cons (ev_int) (ea_nil)))) (nomark _)))).et) (ss_one (s_ret (ev_bl))) (ss_nil))
    (ss_one (s_ret (ev_and (ev_cmp (dop_eq hr.units) (ev_fld (ev_call (ok_nearest T) (hr.mono (by decide)) pass_cx (ea_cons (ev_int) (ea_cons ((en_lst (ea_cons (ev_int) (ea_cons (ev_int) (ea_nil)))).ev) (ea_cons ((en_lst (ea_cons (ev_tup (ea_cons (ev_int) (ea_cons (ev_tup (ea_cons (ev_int) (ea_cons (ev_int) (ea_nil)))) (ea_nil)))) (ea_nil))).ev) (ea_nil))))) T.cl_Bend T.na_Bend_handles) (ev_tup (ea_cons (ev_tup (ea_cons (ev_int) (ea_cons (ev_int) (ea_nil)))) (ea_nil))) (nomark _)) (ev_one (ev_call0 (ok_law_papers_right T) (hr.mono (by decide)) pass_cx)))))))))))))))))))
end HB
namespace HB
open PySem L2
theorem law_true (ns : List Int) (_ : ns.length ≤ 63) : isT (F_law [scr ns]) = true := by kernel_rfl
end HB
namespace HB
open PySem L2
def fa0 : List He.Fa := [.free "abs",
  .free "all",
  .free "any",
  .free "bool",
  .free "enumerate",
  .free "int",
  .free "isinstance",
  .free "len",
  .free "list",
  .free "range",
  .free "str",
  .free "tuple",
  .free "zip",
  .glo "NOUGHT",
  .glo "ONE",
  .int "PAIR_nearest" 2,
  .int "PAIR_values" 2,
  .cls "Bend",
  .mkr "Bend",
  .glo "Bend",
  .noat "Bend" "degree",
  .noat "Bend" "handles",
  .noat "Bend" "marks",
  .noat "Bend" "text",
  .glo "is_less",
  .glo "common_part",
  .glo "in_lowest",
  .glo "less_by",
  .glo "lots_of",
  .glo "sign_of"]
def fa1 : List He.Fa := [.glo "size_of",
  .glo "multiplied",
  .glo "added",
  .glo "summed",
  .glo "together",
  .glo "less_row",
  .glo "quotient",
  .glo "reduced",
  .glo "killed",
  .glo "turned",
  .glo "weights_of_lot",
  .glo "best_weighing",
  .glo "is_integer",
  .glo "is_value",
  .glo "value_of",
  .glo "is_inside",
  .glo "is_next",
  .glo "is_sequence",
  .glo "need_points",
  .glo "size_for",
  .glo "share_of",
  .glo "is_at_most",
  .glo "span_of",
  .glo "all_weights",
  .glo "knots_of",
  .glo "weight_rows",
  .glo "weighing",
  .glo "is_row",
  .glo "kills",
  .glo "weighing_holds"]
def fa2 : List He.Fa := [.glo "_law_papers_right",
  .glo "least_miss",
  .glo "are_marks",
  .glo "text_of",
  .glo "text_of_bend",
  .glo "misses",
  .glo "moved_by",
  .glo "signs_of",
  .glo "solved",
  .glo "drawn_near",
  .glo "nearest",
  .glo "law"]
def fa : List He.Fa := fa0 ++ fa1 ++ fa2
def fn0 : List He.DefD := [⟨("is_less", none), "is_less", "is_less", defArgs s_is_less, defBody s_is_less, defScope s_is_less, [], []⟩,
  ⟨("common_part", none), "common_part", "common_part", defArgs s_common_part, defBody s_common_part, defScope s_common_part, [], []⟩,
  ⟨("in_lowest", none), "in_lowest", "in_lowest", defArgs s_in_lowest, defBody s_in_lowest, defScope s_in_lowest, [], []⟩,
  ⟨("less_by", none), "less_by", "less_by", defArgs s_less_by, defBody s_less_by, defScope s_less_by, [], []⟩,
  ⟨("lots_of", none), "lots_of", "lots_of", defArgs s_lots_of, defBody s_lots_of, defScope s_lots_of, [], []⟩,
  ⟨("sign_of", none), "sign_of", "sign_of", defArgs s_sign_of, defBody s_sign_of, defScope s_sign_of, [], []⟩,
  ⟨("size_of", none), "size_of", "size_of", defArgs s_size_of, defBody s_size_of, defScope s_size_of, [], []⟩,
  ⟨("multiplied", none), "multiplied", "multiplied", defArgs s_multiplied, defBody s_multiplied, defScope s_multiplied, [], []⟩,
  ⟨("added", none), "added", "added", defArgs s_added, defBody s_added, defScope s_added, [], []⟩,
  ⟨("summed", none), "summed", "summed", defArgs s_summed, defBody s_summed, defScope s_summed, [], []⟩,
  ⟨("together", none), "together", "together", defArgs s_together, defBody s_together, defScope s_together, [], []⟩,
  ⟨("less_row", none), "less_row", "less_row", defArgs s_less_row, defBody s_less_row, defScope s_less_row, [], []⟩,
  ⟨("quotient", none), "quotient", "quotient", defArgs s_quotient, defBody s_quotient, defScope s_quotient, [], []⟩,
  ⟨("reduced", none), "reduced", "reduced", defArgs s_reduced, defBody s_reduced, defScope s_reduced, [], []⟩,
  ⟨("killed", none), "killed", "killed", defArgs s_killed, defBody s_killed, defScope s_killed, [], []⟩,
  ⟨("turned", none), "turned", "turned", defArgs s_turned, defBody s_turned, defScope s_turned, [], []⟩,
  ⟨("weights_of_lot", none), "weights_of_lot", "weights_of_lot", defArgs s_weights_of_lot, defBody s_weights_of_lot, defScope s_weights_of_lot, [], []⟩,
  ⟨("best_weighing", none), "best_weighing", "best_weighing", defArgs s_best_weighing, defBody s_best_weighing, defScope s_best_weighing, [], []⟩,
  ⟨("is_integer", none), "is_integer", "is_integer", defArgs s_is_integer, defBody s_is_integer, defScope s_is_integer, [], []⟩,
  ⟨("is_value", none), "is_value", "is_value", defArgs s_is_value, defBody s_is_value, defScope s_is_value, [], []⟩,
  ⟨("value_of", none), "value_of", "value_of", defArgs s_value_of, defBody s_value_of, defScope s_value_of, [], []⟩,
  ⟨("is_inside", none), "is_inside", "is_inside", defArgs s_is_inside, defBody s_is_inside, defScope s_is_inside, [], []⟩,
  ⟨("is_next", none), "is_next", "is_next", defArgs s_is_next, defBody s_is_next, defScope s_is_next, [], []⟩,
  ⟨("is_sequence", none), "is_sequence", "is_sequence", defArgs s_is_sequence, defBody s_is_sequence, defScope s_is_sequence, [], []⟩,
  ⟨("need_points", none), "need_points", "need_points", defArgs s_need_points, defBody s_need_points, defScope s_need_points, [], []⟩,
  ⟨("size_for", none), "size_for", "size_for", defArgs s_size_for, defBody s_size_for, defScope s_size_for, [], []⟩,
  ⟨("share_of", none), "share_of", "share_of", defArgs s_share_of, defBody s_share_of, defScope s_share_of, [], []⟩,
  ⟨("is_at_most", none), "is_at_most", "is_at_most", defArgs s_is_at_most, defBody s_is_at_most, defScope s_is_at_most, [], []⟩,
  ⟨("span_of", none), "span_of", "span_of", defArgs s_span_of, defBody s_span_of, defScope s_span_of, [], []⟩,
  ⟨("all_weights", none), "all_weights", "all_weights", defArgs s_all_weights, defBody s_all_weights, defScope s_all_weights, [], []⟩]
def fn1 : List He.DefD := [⟨("knots_of", none), "knots_of", "knots_of", defArgs s_knots_of, defBody s_knots_of, defScope s_knots_of, [], []⟩,
  ⟨("weight_rows", none), "weight_rows", "weight_rows", defArgs s_weight_rows, defBody s_weight_rows, defScope s_weight_rows, [], []⟩,
  ⟨("weighing", none), "weighing", "weighing", defArgs s_weighing, defBody s_weighing, defScope s_weighing, [], []⟩,
  ⟨("is_row", none), "is_row", "is_row", defArgs s_is_row, defBody s_is_row, defScope s_is_row, [], []⟩,
  ⟨("kills", none), "kills", "kills", defArgs s_kills, defBody s_kills, defScope s_kills, [], []⟩,
  ⟨("weighing_holds", none), "weighing_holds", "weighing_holds", defArgs s_weighing_holds, defBody s_weighing_holds, defScope s_weighing_holds, [], []⟩,
  ⟨("_law_papers_right", none), "_law_papers_right", "_law_papers_right", defArgs s_law_papers_right, defBody s_law_papers_right, defScope s_law_papers_right, [], []⟩,
  ⟨("least_miss", none), "least_miss", "least_miss", defArgs s_least_miss, defBody s_least_miss, defScope s_least_miss, [], []⟩,
  ⟨("are_marks", none), "are_marks", "are_marks", defArgs s_are_marks, defBody s_are_marks, defScope s_are_marks, [], []⟩,
  ⟨("text_of", none), "text_of", "text_of", defArgs s_text_of, defBody s_text_of, defScope s_text_of, [], []⟩,
  ⟨("text_of_bend", none), "text_of_bend", "text_of_bend", defArgs s_text_of_bend, defBody s_text_of_bend, defScope s_text_of_bend, [], []⟩,
  ⟨("Bend", some "__init__"), "__init__", "Bend.__init__", defArgs s_Bend_init, defBody s_Bend_init, defScope s_Bend_init, [], []⟩,
  ⟨("misses", none), "misses", "misses", defArgs s_misses, defBody s_misses, defScope s_misses, [], []⟩,
  ⟨("moved_by", none), "moved_by", "moved_by", defArgs s_moved_by, defBody s_moved_by, defScope s_moved_by, [], []⟩,
  ⟨("signs_of", none), "signs_of", "signs_of", defArgs s_signs_of, defBody s_signs_of, defScope s_signs_of, [], []⟩,
  ⟨("solved", none), "solved", "solved", defArgs s_solved, defBody s_solved, defScope s_solved, [], []⟩,
  ⟨("drawn_near", none), "drawn_near", "drawn_near", defArgs s_drawn_near, defBody s_drawn_near, defScope s_drawn_near, [], []⟩,
  ⟨("nearest", none), "nearest", "nearest", defArgs s_nearest, defBody s_nearest, defScope s_nearest, [], []⟩,
  ⟨("law", none), "law", "law", defArgs s_law, defBody s_law, defScope s_law, [], []⟩]
def fn : List He.DefD := fn0 ++ fn1
def tp0 : List (Str × List He.Dv) := [("NOUGHT", [.int 0, .int 1]),
  ("ONE", [.int 1, .int 1])]
def tp : List (Str × List He.Dv) := tp0
def loo0 : List Str := ["__name__",
  "BendError",
  "InvalidBend",
  "InvalidText",
  "InvalidPoints",
  "PAIR_values",
  "DIGITS",
  "MOST_DIGITS",
  "NOUGHT",
  "ONE",
  "is_integer",
  "is_sequence",
  "common_part",
  "in_lowest",
  "is_value",
  "value_of",
  "added",
  "less_by",
  "multiplied",
  "quotient",
  "is_less",
  "is_at_most",
  "sign_of",
  "size_of",
  "summed",
  "text_of",
  "number_in",
  "value_in",
  "values_in",
  "are_marks"]
def loo1 : List Str := ["Bend",
  "text_of_bend",
  "rows_in",
  "knots_of",
  "span_of",
  "share_of",
  "all_weights",
  "together",
  "less_row",
  "reduced",
  "killed",
  "solved",
  "turned",
  "is_inside",
  "is_next",
  "size_for",
  "weight_rows",
  "is_row",
  "kills",
  "PAIR_nearest",
  "need_points",
  "lots_of",
  "weights_of_lot",
  "best_weighing",
  "least_miss",
  "moved_by",
  "signs_of",
  "misses",
  "drawn_near",
  "nearest"]
def loo2 : List Str := ["weighing",
  "weighing_holds",
  "_law_papers_right"]
def loo : List Str := loo0 ++ loo1 ++ loo2
abbrev rowR : PySem.W.OpenRow := PySem.W.OpenLaw.row PySem.Challenge.rw_handlebends_k60_nearest_known
abbrev hk : PySem.W.Hook := hookX 4 fa fn tp
def ob (s : PySem.W.SharedT) : AlX := obsXG 4 fa fn tp (HandSHeadRun.getT s)
theorem ob_eq (s : PySem.W.SharedT) : ob s = hk.obs s.abs := obsXG_eq (HandSHeadRun.getT_eq s)
theorem topRun (w : World) : HandSHeadRun.RunEq rowR (PySem.W.view rowR.prog [69]) hk ob 6000 loo w := by
  intro os
  kernel_rfl
theorem say {K : PySem.W.Frag} {h : Heap} {mg : Str → Option Value} (X : K.In h) (G : h.Ns mainGlobals mg) (c : He.SaysD fa fn K) (t : (tp.all fun p => He.tupB K p.1 p.2) = true) : Say K mg where
  m_abs := He.free_ok X G (c.fact 0 (f := .free "abs") rfl)
  m_all := He.free_ok X G (c.fact 1 (f := .free "all") rfl)
  m_any := He.free_ok X G (c.fact 2 (f := .free "any") rfl)
  m_bool := He.free_ok X G (c.fact 3 (f := .free "bool") rfl)
  m_enumerate := He.free_ok X G (c.fact 4 (f := .free "enumerate") rfl)
  m_int := He.free_ok X G (c.fact 5 (f := .free "int") rfl)
  m_isinstance := He.free_ok X G (c.fact 6 (f := .free "isinstance") rfl)
  m_len := He.free_ok X G (c.fact 7 (f := .free "len") rfl)
  m_list := He.free_ok X G (c.fact 8 (f := .free "list") rfl)
  m_range := He.free_ok X G (c.fact 9 (f := .free "range") rfl)
  m_str := He.free_ok X G (c.fact 10 (f := .free "str") rfl)
  m_tuple := He.free_ok X G (c.fact 11 (f := .free "tuple") rfl)
  m_zip := He.free_ok X G (c.fact 12 (f := .free "zip") rfl)
  c_NOUGHT := gl_tup X G (c.fact 13 (f := .glo "NOUGHT") rfl) (tp_ok t 0 rfl) rfl rfl
  c_ONE := gl_tup X G (c.fact 14 (f := .glo "ONE") rfl) (tp_ok t 1 rfl) rfl rfl
  c_PAIR_nearest := gl_int X G (c.fact 15 (f := .int "PAIR_nearest" 2) rfl)
  c_PAIR_values := gl_int X G (c.fact 16 (f := .int "PAIR_values" 2) rfl)
  cl_Bend := He.cls_ok (c.fact 17 (f := .cls "Bend") rfl)
  mk_Bend := He.mkr_ok (c.fact 18 (f := .mkr "Bend") rfl)
  gc_Bend := He.glo_ok X G (c.fact 19 (f := .glo "Bend") rfl)
  na_Bend_degree := He.noat_ok (c.fact 20 (f := .noat "Bend" "degree") rfl)
  na_Bend_handles := He.noat_ok (c.fact 21 (f := .noat "Bend" "handles") rfl)
  na_Bend_marks := He.noat_ok (c.fact 22 (f := .noat "Bend" "marks") rfl)
  na_Bend_text := He.noat_ok (c.fact 23 (f := .noat "Bend" "text") rfl)
  d_is_less := c.def_ 0 rfl
  g_is_less := He.glo_ok X G (c.fact 24 (f := .glo "is_less") rfl)
  d_common_part := c.def_ 1 rfl
  g_common_part := He.glo_ok X G (c.fact 25 (f := .glo "common_part") rfl)
  d_in_lowest := c.def_ 2 rfl
  g_in_lowest := He.glo_ok X G (c.fact 26 (f := .glo "in_lowest") rfl)
  d_less_by := c.def_ 3 rfl
  g_less_by := He.glo_ok X G (c.fact 27 (f := .glo "less_by") rfl)
  d_lots_of := c.def_ 4 rfl
  g_lots_of := He.glo_ok X G (c.fact 28 (f := .glo "lots_of") rfl)
  d_sign_of := c.def_ 5 rfl
  g_sign_of := He.glo_ok X G (c.fact 29 (f := .glo "sign_of") rfl)
  d_size_of := c.def_ 6 rfl
  g_size_of := He.glo_ok X G (c.fact 30 (f := .glo "size_of") rfl)
  d_multiplied := c.def_ 7 rfl
  g_multiplied := He.glo_ok X G (c.fact 31 (f := .glo "multiplied") rfl)
  d_added := c.def_ 8 rfl
  g_added := He.glo_ok X G (c.fact 32 (f := .glo "added") rfl)
  d_summed := c.def_ 9 rfl
  g_summed := He.glo_ok X G (c.fact 33 (f := .glo "summed") rfl)
  d_together := c.def_ 10 rfl
  g_together := He.glo_ok X G (c.fact 34 (f := .glo "together") rfl)
  d_less_row := c.def_ 11 rfl
  g_less_row := He.glo_ok X G (c.fact 35 (f := .glo "less_row") rfl)
  d_quotient := c.def_ 12 rfl
  g_quotient := He.glo_ok X G (c.fact 36 (f := .glo "quotient") rfl)
  d_reduced := c.def_ 13 rfl
  g_reduced := He.glo_ok X G (c.fact 37 (f := .glo "reduced") rfl)
  d_killed := c.def_ 14 rfl
  g_killed := He.glo_ok X G (c.fact 38 (f := .glo "killed") rfl)
  d_turned := c.def_ 15 rfl
  g_turned := He.glo_ok X G (c.fact 39 (f := .glo "turned") rfl)
  d_weights_of_lot := c.def_ 16 rfl
  g_weights_of_lot := He.glo_ok X G (c.fact 40 (f := .glo "weights_of_lot") rfl)
  d_best_weighing := c.def_ 17 rfl
  g_best_weighing := He.glo_ok X G (c.fact 41 (f := .glo "best_weighing") rfl)
  d_is_integer := c.def_ 18 rfl
  g_is_integer := He.glo_ok X G (c.fact 42 (f := .glo "is_integer") rfl)
  d_is_value := c.def_ 19 rfl
  g_is_value := He.glo_ok X G (c.fact 43 (f := .glo "is_value") rfl)
  d_value_of := c.def_ 20 rfl
  g_value_of := He.glo_ok X G (c.fact 44 (f := .glo "value_of") rfl)
  d_is_inside := c.def_ 21 rfl
  g_is_inside := He.glo_ok X G (c.fact 45 (f := .glo "is_inside") rfl)
  d_is_next := c.def_ 22 rfl
  g_is_next := He.glo_ok X G (c.fact 46 (f := .glo "is_next") rfl)
  d_is_sequence := c.def_ 23 rfl
  g_is_sequence := He.glo_ok X G (c.fact 47 (f := .glo "is_sequence") rfl)
  d_need_points := c.def_ 24 rfl
  g_need_points := He.glo_ok X G (c.fact 48 (f := .glo "need_points") rfl)
  d_size_for := c.def_ 25 rfl
  g_size_for := He.glo_ok X G (c.fact 49 (f := .glo "size_for") rfl)
  d_share_of := c.def_ 26 rfl
  g_share_of := He.glo_ok X G (c.fact 50 (f := .glo "share_of") rfl)
  d_is_at_most := c.def_ 27 rfl
  g_is_at_most := He.glo_ok X G (c.fact 51 (f := .glo "is_at_most") rfl)
  d_span_of := c.def_ 28 rfl
  g_span_of := He.glo_ok X G (c.fact 52 (f := .glo "span_of") rfl)
  d_all_weights := c.def_ 29 rfl
  g_all_weights := He.glo_ok X G (c.fact 53 (f := .glo "all_weights") rfl)
  d_knots_of := c.def_ 30 rfl
  g_knots_of := He.glo_ok X G (c.fact 54 (f := .glo "knots_of") rfl)
  d_weight_rows := c.def_ 31 rfl
  g_weight_rows := He.glo_ok X G (c.fact 55 (f := .glo "weight_rows") rfl)
  d_weighing := c.def_ 32 rfl
  g_weighing := He.glo_ok X G (c.fact 56 (f := .glo "weighing") rfl)
  d_is_row := c.def_ 33 rfl
  g_is_row := He.glo_ok X G (c.fact 57 (f := .glo "is_row") rfl)
  d_kills := c.def_ 34 rfl
  g_kills := He.glo_ok X G (c.fact 58 (f := .glo "kills") rfl)
  d_weighing_holds := c.def_ 35 rfl
  g_weighing_holds := He.glo_ok X G (c.fact 59 (f := .glo "weighing_holds") rfl)
  d_law_papers_right := c.def_ 36 rfl
  g_law_papers_right := He.glo_ok X G (c.fact 60 (f := .glo "_law_papers_right") rfl)
  d_least_miss := c.def_ 37 rfl
  g_least_miss := He.glo_ok X G (c.fact 61 (f := .glo "least_miss") rfl)
  d_are_marks := c.def_ 38 rfl
  g_are_marks := He.glo_ok X G (c.fact 62 (f := .glo "are_marks") rfl)
  d_text_of := c.def_ 39 rfl
  g_text_of := He.glo_ok X G (c.fact 63 (f := .glo "text_of") rfl)
  d_text_of_bend := c.def_ 40 rfl
  g_text_of_bend := He.glo_ok X G (c.fact 64 (f := .glo "text_of_bend") rfl)
  d_Bend_init := c.def_ 41 rfl
  d_misses := c.def_ 42 rfl
  g_misses := He.glo_ok X G (c.fact 65 (f := .glo "misses") rfl)
  d_moved_by := c.def_ 43 rfl
  g_moved_by := He.glo_ok X G (c.fact 66 (f := .glo "moved_by") rfl)
  d_signs_of := c.def_ 44 rfl
  g_signs_of := He.glo_ok X G (c.fact 67 (f := .glo "signs_of") rfl)
  d_solved := c.def_ 45 rfl
  g_solved := He.glo_ok X G (c.fact 68 (f := .glo "solved") rfl)
  d_drawn_near := c.def_ 46 rfl
  g_drawn_near := He.glo_ok X G (c.fact 69 (f := .glo "drawn_near") rfl)
  d_nearest := c.def_ 47 rfl
  g_nearest := He.glo_ok X G (c.fact 70 (f := .glo "nearest") rfl)
  d_law := c.def_ 48 rfl
  g_law := He.glo_ok X G (c.fact 71 (f := .glo "law") rfl)
end HB
open PyProof.Rows PySem PySem.Calls PySem.W
theorem PySem.Challenge.cw_handlebends_k60_nearest_known_holds : PySem.Challenge.rw_handlebends_k60_nearest_known.Holds := by
  w_on; o_law
  refine HandSHeadRun.head_any (r := OpenLaw.row PySem.Challenge.rw_handlebends_k60_nearest_known) (q := view (OpenLaw.row PySem.Challenge.rw_handlebends_k60_nearest_known).prog [69]) (H := HB.hk) (ob := HB.ob) (M := 6000) (loose := HB.loo) (d := HandSHeadRun.topDef (OpenLaw.row PySem.Challenge.rw_handlebends_k60_nearest_known).prog 69) (kwd := []) HB.ob_eq
    (by kernel_rfl) (fun s => by kernel_rfl) HB.topRun (by kernel_rfl) (by kernel_rfl) (by kernel_rfl) (by rfl) (by first | assumption | decide +kernel) (by decide +kernel) ⟨rfl, rfl, rfl, rfl, rfl, by decide +kernel⟩ ?hw ?hc
  case hw => w_witness2
  case hc =>
    refine L2.walk_ofE (l := PySem.Challenge.rw_handlebends_k60_nearest_known) (n := 63) (k := 11) (x := "_law_script") (CX := L2.CX0) rfl (by decide) (by kernel_rfl) ⟨rfl, by decide, by decide⟩ ?F (fun _ _ _ _ z => z)
    intro w mg fa h Y G hmg0
    obtain ⟨K, KX, c, t⟩ := Y
    have nm : (HandSHeadRun.topDef (OpenLaw.row PySem.Challenge.rw_handlebends_k60_nearest_known).prog 69).name = ("law" : PySem.Str) := by kernel_rfl
    have hmg := nm ▸ hmg0
    have T := HB.say KX G c t
    have e2 := hmg.symm.trans T.g_law
    cases e2
    obtain ⟨fd, F⟩ := T.d_law
    have b := L2.FunD.bindsA (ps := ["_law_script"]) F fun _ _ _ _ _ _ us hl => match us, hl with | [_], _ => rfl
    refine ⟨K, fd, HB.spE (HB.spP K 1 HB.F_law), KX, fun s v => b s [v] rfl, fun H a ns hl _ hS => HB.law_sp HB.law_true H a ns hl hS, fun base _ _ => ?_⟩
    exact HB.ok_cx0 (HB.ok_law F T)
