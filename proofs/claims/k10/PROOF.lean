import PyProof.Rows.All
import Wide.All
import OpenK.AllK
import Wide.FinOn
import PyProof.EqAt
import PyProof.EqKinds
import PyProof.TupleCall
import Open.SpecLaws
import KE.OsGo
import HandS.ForMost
import HandS.ForExc
import HandS.IsInst
import HandS.Wide
import HandS.StrMore
import HandS.Deep
import HandS.SuiteRaise
import HandS.RaiseFrom
import HandS.ExcInitHot
import HandS.ExcInit
import HandS.TryMany
import HandS.ExcIs
import HandS.ExcField
import HandS.Conv
import HandS.Zip
import HandS.TupAny
import HandS.RaiseMore
import KE.KExcIs
import PySem.Challenge.RW_markscale_k10_cells_as_texts
set_option Elab.async false
set_option linter.all false
set_option maxRecDepth 100000
set_option maxHeartbeats 4000000
/-! DL: a data layer over HandS: what an expression, a statement, a def computes, as plain functions over PyData. -/
namespace DL
open PySem PySem.Spec PyProof.Rows L2

abbrev D := PyData
abbrev St := L2.St
/-- a local slot: unbound, immutable data, a list that the frame alone holds -/
inductive L where
  | un | im (d : D) | ow (ds : List D) | xc
/-- what an expression gives: data; the list of slot i, borrowed; a new list that nobody else holds -/
inductive W where
  | d (d : D) | o (i : Nat) | fr (ds : List D)
abbrev LS := List L
/-- an exception: its class's name, its field -/
structure EX where
  cls : Str
  fld : Option (Str × D)
inductive Res (α : Type) where
  | ok (a : α) (ℓ : LS) | ex (x : EX) (ℓ : LS)
abbrev CE := LS → Option (Res W)
abbrev CT := LS → Option (Res Bool)
abbrev CA := LS → Option (Res (List W))
inductive Fl where
  | nx | bk | ct | rt (w : W) | ex (x : EX)
abbrev CS := LS → Option (Fl × LS)
/-- what a def gives -/
inductive Rt where
  | d (d : D) | fr (ds : List D) | ex (x : EX)

/-! ### data in the heap -/
mutual
inductive Rp (K : PySem.W.Frag) (H : Hp) : V → D → Prop
  | non : Rp K H .non .none
  | bl (b : Bool) : Rp K H (.bl b) (.bool b)
  | int (i : Int) : Rp K H (.int i) (.int i)
  | str (x : Str) : Rp K H (.str x) (.str x)
  | lst {a : Addr} {xs : List V} {ds : List D} : SqL K H a xs → RpAll K H xs ds → Rp K H (.ref a) (.list ds)
  | tup {a : Addr} {xs : List V} {ds : List D} : SqT K H a xs → RpAll K H xs ds → Rp K H (.ref a) (.tuple ds)
inductive RpAll (K : PySem.W.Frag) (H : Hp) : List V → List D → Prop
  | nil : RpAll K H [] []
  | cons {v : V} {vs : List V} {d : D} {ds : List D} : Rp K H v d → RpAll K H vs ds → RpAll K H (v :: vs) (d :: ds)
end
theorem rd_mono {F H : Hp} (e : Same F H) {a : Addr} {o : HO} (h : Rd F a o) : Rd H a o := by
  rcases h with h | ⟨u, h⟩
  · exact .inl (e _ _ h)
  · exact .inr ⟨u, e _ _ h⟩
mutual
theorem rp_dp {K : PySem.W.Frag} {F : Hp} : ∀ {d : D} {v : V}, Rp K F v d → L2.Dp K F v d
  | .none, _, h => by cases h; exact .non
  | .bool _, _, h => by cases h; exact .bl _
  | .int _, _, h => by cases h; exact .int _
  | .str _, _, h => by cases h; exact .str _
  | .list ds, _, h => by
    cases h with
    | lst h1 h2 => exact .lst h1 (rpAll_dp h2)
  | .tuple ds, _, h => by
    cases h with
    | tup h1 h2 => exact .tup h1 (rpAll_dp h2)
  | .dict _, _, h => by cases h
theorem rpAll_dp {K : PySem.W.Frag} {F : Hp} : ∀ {ds : List D} {vs : List V}, RpAll K F vs ds → L2.DpAll K F vs ds
  | [], _, h => by cases h; exact .nil
  | d :: ds, _, h => by
    cases h with
    | cons h1 h2 => exact .cons (rp_dp h1) (rpAll_dp h2)
end
section
variable {K : PySem.W.Frag} {F H : Hp}
theorem sqL_mono (e : Same F H) {a : Addr} {xs : List V} (h : SqL K F a xs) : SqL K H a xs := by
  rcases h with h | h
  · exact .inl (rd_mono e h)
  · exact .inr h
theorem sqT_mono (e : Same F H) {a : Addr} {xs : List V} (h : SqT K F a xs) : SqT K H a xs := by
  rcases h with (h | ⟨o, h⟩) | h
  · exact .inl (.inl (e _ _ h))
  · exact .inl (.inr ⟨o, e _ _ h⟩)
  · exact .inr h
mutual
theorem dp_mono (e : Same F H) : ∀ {d : D} {v : V}, Rp K F v d → Rp K H v d
  | .none, _, h => by cases h; exact .non
  | .bool _, _, h => by cases h; exact .bl _
  | .int _, _, h => by cases h; exact .int _
  | .str _, _, h => by cases h; exact .str _
  | .list ds, _, h => by
    cases h with
    | lst h1 h2 => exact .lst (sqL_mono e h1) (dpAll_mono e h2)
  | .tuple ds, _, h => by
    cases h with
    | tup h1 h2 => exact .tup (sqT_mono e h1) (dpAll_mono e h2)
  | .dict _, _, h => by cases h
theorem dpAll_mono (e : Same F H) : ∀ {ds : List D} {vs : List V}, RpAll K F vs ds → RpAll K H vs ds
  | [], _, h => by cases h; exact .nil
  | d :: ds, _, h => by
    cases h with
    | cons h1 h2 => exact .cons (dp_mono e h1) (dpAll_mono e h2)
end
theorem dpAll_len : ∀ {vs : List V} {ds : List D}, RpAll K F vs ds → vs.length = ds.length
  | _, _, .nil => rfl
  | _, _, .cons _ h => by simp [dpAll_len h]
theorem dpAll_get : ∀ {vs : List V} {ds : List D} {i : Nat} {d : D}, RpAll K F vs ds → ds[i]? = some d → ∃ v, vs[i]? = some v ∧ Rp K F v d
  | _, _, _, _, .nil, e => by simp at e
  | _, _, 0, _, .cons h _, e => by simp at e; subst e; exact ⟨_, rfl, h⟩
  | _, _, i + 1, d, .cons _ h, e => by
    obtain ⟨v, h1, h2⟩ := dpAll_get (i := i) h (by simpa using e)
    exact ⟨v, by simpa using h1, h2⟩
theorem dpAll_get' : ∀ {vs : List V} {ds : List D} {i : Nat} {v : V}, RpAll K F vs ds → vs[i]? = some v → ∃ d, ds[i]? = some d ∧ Rp K F v d
  | _, _, _, _, .nil, e => by simp at e
  | _, _, 0, _, .cons h _, e => by simp at e; subst e; exact ⟨_, rfl, h⟩
  | _, _, i + 1, d, .cons _ h, e => by
    obtain ⟨v, h1, h2⟩ := dpAll_get' (i := i) h (by simpa using e)
    exact ⟨v, by simpa using h1, h2⟩
theorem dpAll_app : ∀ {vs us : List V} {ds es : List D}, RpAll K F vs ds → RpAll K F us es → RpAll K F (vs ++ us) (ds ++ es)
  | _, _, _, _, .nil, h => h
  | _, _, _, _, .cons h t, g => .cons h (dpAll_app t g)
theorem dpAll_take : ∀ {vs : List V} {ds : List D} (n : Nat), RpAll K F vs ds → RpAll K F (vs.take n) (ds.take n)
  | _, _, 0, _ => .nil
  | _, _, _ + 1, .nil => .nil
  | _, _, n + 1, .cons h t => .cons h (dpAll_take n t)
theorem dpAll_drop : ∀ {vs : List V} {ds : List D} (n : Nat), RpAll K F vs ds → RpAll K F (vs.drop n) (ds.drop n)
  | _, _, 0, h => h
  | _, _, _ + 1, .nil => .nil
  | _, _, n + 1, .cons _ t => dpAll_drop n t
/-- scalars as values -/
def isSc : D → Bool
  | .none => true | .bool _ => true | .int _ => true | .str _ => true | _ => false
def scV : D → V
  | .bool b => .bl b | .int i => .int i | .str x => .str x | _ => .non
theorem dp_sc {d : D} (h : isSc d = true) : Rp K F (scV d) d := by
  cases d <;> first | exact .non | exact .bl _ | exact .int _ | exact .str _ | cases h
theorem dp_sc_eq {d : D} {v : V} (h : Rp K F v d) (s : isSc d = true) : v = scV d := by
  cases h <;> first | rfl | cases s
theorem dp_sc_any {F' : Hp} {d : D} {v : V} (h : Rp K F v d) (s : isSc d = true) : Rp K F' v d := by
  rw [dp_sc_eq h s]; exact dp_sc s
theorem dp_int {v : V} {i : Int} (h : Rp K F v (.int i)) : v = .int i := by cases h; rfl
theorem dp_bool {v : V} {b : Bool} (h : Rp K F v (.bool b)) : v = .bl b := by cases h; rfl
theorem dp_str {v : V} {x : Str} (h : Rp K F v (.str x)) : v = .str x := by cases h; rfl
theorem dp_none {v : V} (h : Rp K F v .none) : v = .non := by cases h; rfl
theorem dp_tup {v : V} {ds : List D} (h : Rp K F v (.tuple ds)) : ∃ a xs, v = .ref a ∧ SqT K F a xs ∧ RpAll K F xs ds := by
  cases h with
  | tup h1 h2 => exact ⟨_, _, rfl, h1, h2⟩
theorem dp_lst {v : V} {ds : List D} (h : Rp K F v (.list ds)) : ∃ a xs, v = .ref a ∧ SqL K F a xs ∧ RpAll K F xs ds := by
  cases h with
  | lst h1 h2 => exact ⟨_, _, rfl, h1, h2⟩
end
theorem same_upd {F H : Hp} {p : Addr} {o : HO} (e : Same F H) (hp : H p = none) : Same F (upd H p o) := fun a u q => by
  have h1 := e a u q
  rw [upd_ne (ne_of_none h1 hp)]; exact h1
theorem same_upd2 {F H : Hp} {p : Addr} {o : HO} (e : Same F H) : Same (upd F p o) (upd H p o) := fun a u q => by
  by_cases h : a = p
  · subst h; rw [upd_same] at q ⊢; exact q
  · rw [upd_ne h] at q ⊢; exact e a u q
theorem same_updF {F H : Hp} {p : Addr} {o : HO} (e : Same F H) (hp : H p = some o) : Same (upd F p o) H := fun a u q => by
  by_cases h : a = p
  · subst h; rw [upd_same] at q; rw [← q]; exact hp
  · rw [upd_ne h] at q; exact e a u q
theorem same_self {H : Hp} {p : Addr} {o : HO} (hp : H p = none) : Same H (upd H p o) := same_upd (Same.refl H) hp
theorem not_frozen {F H : Hp} {p : Addr} (e : Same F H) (hp : H p = none) : F p = none := e.free hp

/-! ### the frame's state -/
/-- the exception that a suite holds: its object, what is told of it, its class, its dict -/
structure XQ where
  a : Addr
  x : EX
  cls : Value
  dd : Option Addr
structure DC where
  K : PySem.W.Frag
  mg : Str → Option Value
  F0 : Hp
  H0 : Hp
  xq : Option XQ
def XR (c : DC) (F H : Hp) (x : EX) (cls : Value) (dd : Option Addr) : Prop :=
  ∃ C : Addr, c.mg x.cls = some (.ref C) ∧ cls = .ref C ∧ match x.fld with
    | none => dd = none
    | some (f, d) => ∃ a v, dd = some a ∧ H a = some (.xd [(f, v)]) ∧ Rp c.K F v d
theorem XR.mono {c : DC} {F F' H H' : Hp} {x : EX} {cls : Value} {dd : Option Addr} (h : XR c F H x cls dd) (s : Same F F') (t : ∀ a fs, H a = some (.xd fs) → H' a = some (.xd fs)) : XR c F' H' x cls dd := by
  obtain ⟨C, h1, h2, h3⟩ := h
  refine ⟨C, h1, h2, ?_⟩
  split at h3
  · exact h3
  · obtain ⟨a, v, e1, e2, e3⟩ := h3
    exact ⟨a, v, e1, t _ _ e2, dp_mono s e3⟩
structure DI (c : DC) (F H : Hp) (σ : St) (ℓ : LS) : Prop where
  sub : Same F H
  ent : Same c.H0 H
  old : ∀ a o, F a = some o → c.F0 a = some o ∨ c.H0 a = none
  ge : Same c.F0 F
  len : ℓ.length = σ.length
  im : ∀ (i : Nat) (d : D), ℓ[i]? = some (.im d) → ∃ v, σ[i]? = some (some v) ∧ Rp c.K F v d
  ow : ∀ (i : Nat) (ds : List D), ℓ[i]? = some (.ow ds) → ∃ (a : Addr) (vs : List V), σ[i]? = some (some (.ref a)) ∧ F a = none ∧ c.H0 a = none ∧ H a = some (.lst vs) ∧ RpAll c.K F vs ds
  dis : ∀ (i j : Nat) (a : Addr) (ds es : List D), ℓ[i]? = some (.ow ds) → ℓ[j]? = some (.ow es) → σ[i]? = some (some (.ref a)) → σ[j]? = some (some (.ref a)) → i = j
  xs : ∀ (i : Nat), ℓ[i]? = some .xc → ∃ q, c.xq = some q ∧ σ[i]? = some (some (.ref q.a))
  xr : ∀ q, c.xq = some q → XR c F H q.x q.cls q.dd
def WA (c : DC) (F : Hp) (σ : St) : W → V → Prop
  | .d d, v => Rp c.K F v d
  | .o i, v => σ[i]? = some (some v)
  | .fr _, _ => False
def WR (c : DC) (F H : Hp) (σ : St) (ℓ : LS) : W → V → Prop
  | .d d, v => Rp c.K F v d
  | .o i, v => σ[i]? = some (some v) ∧ ∃ ds, ℓ[i]? = some (.ow ds)
  | .fr ds, v => ∃ a vs, v = .ref a ∧ F a = none ∧ c.H0 a = none ∧ H a = some (.lst vs) ∧ RpAll c.K F vs ds ∧ ∀ (i : Nat) (es : List D), ℓ[i]? = some (.ow es) → σ[i]? ≠ some (some (.ref a))
def PostE (c : DC) (F : Hp) (σ : St) (r : Option (Res W)) (Q : VK) (Wx : WX) : Prop :=
  match r with
  | none => False
  | some (.ok w ℓ') => ∀ v F' H', DI c F' H' σ ℓ' → Same F F' → WR c F' H' σ ℓ' w v → Q v H'
  | some (.ex x ℓ') => ∀ cls dd F' H', DI c F' H' σ ℓ' → Same F F' → XR c F' H' x cls dd → Wx cls dd σ H'
def PostT (c : DC) (F : Hp) (σ : St) (r : Option (Res Bool)) (Q : Bool → Hp → Prop) (Wx : WX) : Prop :=
  match r with
  | none => False
  | some (.ok b ℓ') => ∀ F' H', DI c F' H' σ ℓ' → Same F F' → Q b H'
  | some (.ex x ℓ') => ∀ cls dd F' H', DI c F' H' σ ℓ' → Same F F' → XR c F' H' x cls dd → Wx cls dd σ H'
def WAs (c : DC) (F : Hp) (σ : St) : List W → List V → Prop
  | [], [] => True
  | w :: ws, v :: vs => WA c F σ w v ∧ WAs c F σ ws vs
  | _, _ => False
def PostA (c : DC) (F : Hp) (σ : St) (r : Option (Res (List W))) (Q : List V → Hp → Prop) (Wx : WX) : Prop :=
  match r with
  | none => False
  | some (.ok ws ℓ') => ∀ vs F' H', DI c F' H' σ ℓ' → Same F F' → WAs c F' σ ws vs → Q vs H'
  | some (.ex x ℓ') => ∀ cls dd F' H', DI c F' H' σ ℓ' → Same F F' → XR c F' H' x cls dd → Wx cls dd σ H'
def PostS (c : DC) (F : Hp) (r : Option (Fl × LS)) (D : Ends) (Wx : WX) : Prop :=
  match r with
  | none => False
  | some (.nx, ℓ') => ∀ σ' F' H', DI c F' H' σ' ℓ' → Same F F' → D.nx σ' H'
  | some (.bk, ℓ') => ∀ σ' F' H', DI c F' H' σ' ℓ' → Same F F' → D.bk σ' H'
  | some (.ct, ℓ') => ∀ σ' F' H', DI c F' H' σ' ℓ' → Same F F' → D.ct σ' H'
  | some (.rt w, ℓ') => ∀ v σ' F' H', DI c F' H' σ' ℓ' → Same F F' → WR c F' H' σ' ℓ' w v → D.rt v H'
  | some (.ex x, ℓ') => ∀ cls dd σ' F' H', DI c F' H' σ' ℓ' → Same F F' → XR c F' H' x cls dd → Wx cls dd σ' H'
def lift (c : DC) (Wx : WX) (t : CE) : TE := fun σ H Q => ∃ F ℓ, DI c F H σ ℓ ∧ PostE c F σ (t ℓ) Q Wx
def liftT (c : DC) (Wx : WX) (t : CT) : TT := fun σ H Q => ∃ F ℓ, DI c F H σ ℓ ∧ PostT c F σ (t ℓ) Q Wx
def liftA (c : DC) (Wx : WX) (t : CA) : TA := fun σ H Q => ∃ F ℓ, DI c F H σ ℓ ∧ PostA c F σ (t ℓ) Q Wx
def liftS (c : DC) (Wx : WX) (t : CS) : TS := fun D σ H => ∃ F ℓ, DI c F H σ ℓ ∧ PostS c F (t ℓ) D Wx

section
variable {c : DC} {F F' H H' : Hp} {σ : St} {ℓ ℓ' : LS} {Wx : WX}
theorem DI.new {p : Addr} {o : HO} (I : DI c F H σ ℓ) (hp : H p = none) : DI c F (upd H p o) σ ℓ where
  sub := same_upd I.sub hp
  ent := same_upd I.ent hp
  old := I.old
  ge := I.ge
  len := I.len
  im := I.im
  ow := fun i ds e => by
    obtain ⟨a, vs, h1, h2, h3, h4, h5⟩ := I.ow i ds e
    exact ⟨a, vs, h1, h2, h3, by rw [upd_ne (ne_of_none h4 hp)]; exact h4, h5⟩
  dis := I.dis
  xs := I.xs
  xr := fun q e => (I.xr q e).mono (Same.refl _) fun a fs z => by rw [upd_ne (ne_of_none z hp)]; exact z
/-- new data -/
theorem DI.newF {p : Addr} {o : HO} (I : DI c F H σ ℓ) (hp : H p = none) : DI c (upd F p o) (upd H p o) σ ℓ where
  sub := same_upd2 I.sub
  ent := same_upd I.ent hp
  old := fun a u e => by
    by_cases h : a = p
    · subst h; exact .inr (I.ent.free hp)
    · rw [upd_ne h] at e; exact I.old a u e
  ge := same_upd I.ge (not_frozen I.sub hp)
  len := I.len
  im := fun i d e => by
    obtain ⟨v, h1, h2⟩ := I.im i d e
    exact ⟨v, h1, dp_mono (same_self (not_frozen I.sub hp)) h2⟩
  ow := fun i ds e => by
    obtain ⟨a, vs, h1, h2, h3, h4, h5⟩ := I.ow i ds e
    have ne := ne_of_none h4 hp
    exact ⟨a, vs, h1, by rw [upd_ne ne]; exact h2, h3, by rw [upd_ne ne]; exact h4, dpAll_mono (same_self (not_frozen I.sub hp)) h5⟩
  dis := I.dis
  xs := I.xs
  xr := fun q e => (I.xr q e).mono (same_self (not_frozen I.sub hp)) fun a fs z => by rw [upd_ne (ne_of_none z hp)]; exact z
/-- a list that is nobody's becomes data -/
theorem DI.fz {p : Addr} {vs : List V} (I : DI c F H σ ℓ) (hF : F p = none) (h0 : c.H0 p = none) (hp : H p = some (.lst vs)) (hn : ∀ (i : Nat) (es : List D), ℓ[i]? = some (.ow es) → σ[i]? ≠ some (some (.ref p))) :
    DI c (upd F p (.lst vs)) H σ ℓ where
  sub := same_updF I.sub hp
  ent := I.ent
  old := fun a u e => by
    by_cases h : a = p
    · subst h; exact .inr h0
    · rw [upd_ne h] at e; exact I.old a u e
  ge := same_upd I.ge hF
  len := I.len
  im := fun i d e => by
    obtain ⟨v, h1, h2⟩ := I.im i d e
    exact ⟨v, h1, dp_mono (same_self hF) h2⟩
  ow := fun i ds e => by
    obtain ⟨a, us, h1, h2, h3, h4, h5⟩ := I.ow i ds e
    have ne : a ≠ p := fun z => by subst z; exact hn i ds e h1
    exact ⟨a, us, h1, by rw [upd_ne ne]; exact h2, h3, h4, dpAll_mono (same_self hF) h5⟩
  dis := I.dis
  xs := I.xs
  xr := fun q e => (I.xr q e).mono (same_self hF) fun _ _ z => z
/-- the list of a slot becomes data -/
theorem DI.fzO {i : Nat} {ds : List D} {v : V} (I : DI c F H σ ℓ) (e : ℓ[i]? = some (.ow ds)) (ev : σ[i]? = some (some v)) :
    ∃ F', DI c F' H σ (ℓ.set i (.im (.list ds))) ∧ Same F F' ∧ Rp c.K F' v (.list ds) := by
  obtain ⟨a, vs, h1, h2, h3, h4, h5⟩ := I.ow i ds e
  rw [ev] at h1; cases h1
  have sf : Same F (upd F a (.lst vs)) := same_self h2
  have hd : Rp c.K (upd F a (.lst vs)) (.ref a) (.list ds) := .lst (SqL.of upd_same) (dpAll_mono sf h5)
  refine ⟨upd F a (.lst vs), ⟨same_updF I.sub h4, I.ent, fun b u q => ?_, same_upd I.ge h2, by rw [List.length_set]; exact I.len, fun j d q => ?_, fun j es q => ?_, fun j k b es fs q1 q2 z1 z2 => ?_, fun j q => ?_, fun q e => (I.xr q e).mono sf fun _ _ z => z⟩, sf, hd⟩
  · by_cases h : b = a
    · subst h; exact .inr h3
    · rw [upd_ne h] at q; exact I.old b u q
  · by_cases h : j = i
    · subst h
      have hl : j < ℓ.length := (List.getElem?_eq_some_iff.mp e).1
      rw [List.getElem?_set_self hl] at q; cases q
      exact ⟨_, ev, hd⟩
    · rw [List.getElem?_set_ne (Ne.symm h)] at q
      obtain ⟨u, g1, g2⟩ := I.im j d q
      exact ⟨u, g1, dp_mono sf g2⟩
  · by_cases h : j = i
    · subst h
      have hl : j < ℓ.length := (List.getElem?_eq_some_iff.mp e).1
      rw [List.getElem?_set_self hl] at q; cases q
    · rw [List.getElem?_set_ne (Ne.symm h)] at q
      obtain ⟨b, us, g1, g2, g3, g4, g5⟩ := I.ow j es q
      have ne : b ≠ a := fun z => by subst z; exact h (I.dis j i b es ds q e g1 ev)
      exact ⟨b, us, g1, by rw [upd_ne ne]; exact g2, g3, g4, dpAll_mono sf g5⟩
  · have hk : ∀ (m : Nat) (es : List D), (ℓ.set i (.im (.list ds)))[m]? = some (.ow es) → ℓ[m]? = some (.ow es) := fun m es q => by
      by_cases h : m = i
      · subst h
        have hl : m < ℓ.length := (List.getElem?_eq_some_iff.mp e).1
        rw [List.getElem?_set_self hl] at q; cases q
      · rw [List.getElem?_set_ne (Ne.symm h)] at q; exact q
    exact I.dis j k b es fs (hk _ _ q1) (hk _ _ q2) z1 z2
  · by_cases h : j = i
    · subst h
      have hl : j < ℓ.length := (List.getElem?_eq_some_iff.mp e).1
      rw [List.getElem?_set_self hl] at q; cases q
    · rw [List.getElem?_set_ne (Ne.symm h)] at q
      exact I.xs j q

theorem PostE.mono {r : Option (Res W)} {Q : VK} (s : Same F F') (h : PostE c F σ r Q Wx) : PostE c F' σ r Q Wx := by
  cases r with
  | none => exact h
  | some r => cases r with
    | ok w l => exact fun v G J I e w' => h v G J I (s.trans e) w'
    | ex x l => exact fun a b G J I e w' => h a b G J I (s.trans e) w'
theorem PostT.mono {r : Option (Res Bool)} {Q : Bool → Hp → Prop} (s : Same F F') (h : PostT c F σ r Q Wx) : PostT c F' σ r Q Wx := by
  cases r with
  | none => exact h
  | some r => cases r with
    | ok w l => exact fun G J I e => h G J I (s.trans e)
    | ex x l => exact fun a b G J I e w' => h a b G J I (s.trans e) w'
theorem PostA.mono {r : Option (Res (List W))} {Q : List V → Hp → Prop} (s : Same F F') (h : PostA c F σ r Q Wx) : PostA c F' σ r Q Wx := by
  cases r with
  | none => exact h
  | some r => cases r with
    | ok w l => exact fun vs G J I e w' => h vs G J I (s.trans e) w'
    | ex x l => exact fun a b G J I e w' => h a b G J I (s.trans e) w'
theorem PostS.mono {r : Option (Fl × LS)} {D : Ends} (s : Same F F') (h : PostS c F r D Wx) : PostS c F' r D Wx := by
  cases r with
  | none => exact h
  | some r =>
    obtain ⟨f, l⟩ := r
    cases f with
    | nx => exact fun a G J I e => h a G J I (s.trans e)
    | bk => exact fun a G J I e => h a G J I (s.trans e)
    | ct => exact fun a G J I e => h a G J I (s.trans e)
    | rt w => exact fun v a G J I e w' => h v a G J I (s.trans e) w'
    | ex x => exact fun a b d G J I e w' => h a b d G J I (s.trans e) w'
theorem WA.mono {w : W} {v : V} (s : Same F F') (h : WA c F σ w v) : WA c F' σ w v := by
  cases w with
  | d d => exact dp_mono s h
  | o i => exact h
  | fr ds => exact h
theorem WAs.mono (s : Same F F') : ∀ {ws : List W} {vs : List V}, WAs c F σ ws vs → WAs c F' σ ws vs
  | [], [], h => h
  | _ :: _, _ :: _, h => ⟨h.1.mono s, WAs.mono s h.2⟩
  | [], _ :: _, h => h
  | _ :: _, [], h => h
end

/-! ### what is read of a value, what is kept of it -/
def peek (ℓ : LS) : W → Option D
  | .d d => some d
  | .o i => match ℓ[i]? with
    | some (.ow ds) => some (.list ds)
    | some (.im d) => some d
    | _ => none
  | .fr ds => some (.list ds)
/-- the value is kept by something: a borrowed list becomes data -/
def keepW (ℓ : LS) : W → Option (D × LS)
  | .d d => some (d, ℓ)
  | .o i => match ℓ[i]? with
    | some (.ow ds) => some (.list ds, ℓ.set i (.im (.list ds)))
    | some (.im d) => some (d, ℓ)
    | _ => none
  | .fr ds => some (.list ds, ℓ)
def arg (t : CE) : CE := fun ℓ => match t ℓ with
  | some (.ok (.fr ds) ℓ1) => some (.ok (.d (.list ds)) ℓ1)
  | r => r
section
variable {c : DC} {F F' H H' : Hp} {σ : St} {ℓ ℓ' : LS} {Wx : WX}
/-- what is read of a value holds in the heap as it is -/
theorem peek_dp {w : W} {v : V} {d : D} (I : DI c F H σ ℓ) (h : WA c F σ w v) (e : peek ℓ w = some d) : Rp c.K H v d := by
  cases w with
  | d d' => cases e; exact dp_mono I.sub h
  | o i =>
    unfold peek at e
    cases q : ℓ[i]? with
    | none => simp [q] at e
    | some l =>
      cases l with
      | un => simp [q] at e
      | xc => simp [q] at e
      | im d' =>
        simp [q] at e; subst e
        obtain ⟨u, h1, h2⟩ := I.im i d' q
        rw [show σ[i]? = some (some v) from h] at h1; cases h1
        exact dp_mono I.sub h2
      | ow ds =>
        simp [q] at e; subst e
        obtain ⟨a, vs, h1, h2, h3, h4, h5⟩ := I.ow i ds q
        rw [show σ[i]? = some (some v) from h] at h1; cases h1
        exact .lst (SqL.of h4) (dpAll_mono I.sub h5)
  | fr ds => exact h.elim
/-- the parts of a list, a tuple are data themselves -/
theorem peek_lst {w : W} {v : V} {ds : List D} (I : DI c F H σ ℓ) (h : WA c F σ w v) (e : peek ℓ w = some (.list ds)) : ∃ a vs, v = .ref a ∧ SqL c.K H a vs ∧ RpAll c.K F vs ds := by
  cases w with
  | d d' =>
    cases e
    obtain ⟨a, xs, e1, e2, e3⟩ := dp_lst (show Rp c.K F v _ from h)
    exact ⟨a, xs, e1, sqL_mono I.sub e2, e3⟩
  | o i =>
    unfold peek at e
    cases q : ℓ[i]? with
    | none => simp [q] at e
    | some l =>
      cases l with
      | un => simp [q] at e
      | xc => simp [q] at e
      | im d' =>
        simp [q] at e; subst e
        obtain ⟨u, h1, h2⟩ := I.im i _ q
        rw [show σ[i]? = some (some v) from h] at h1; cases h1
        obtain ⟨a, xs, e1, e2, e3⟩ := dp_lst h2
        exact ⟨a, xs, e1, sqL_mono I.sub e2, e3⟩
      | ow ds' =>
        simp [q] at e; subst e
        obtain ⟨a, vs, h1, h2, h3, h4, h5⟩ := I.ow i _ q
        rw [show σ[i]? = some (some v) from h] at h1; cases h1
        exact ⟨a, vs, rfl, SqL.of h4, h5⟩
  | fr ds => exact h.elim
theorem peek_tup {w : W} {v : V} {ds : List D} (I : DI c F H σ ℓ) (h : WA c F σ w v) (e : peek ℓ w = some (.tuple ds)) : ∃ a vs, v = .ref a ∧ SqT c.K H a vs ∧ RpAll c.K F vs ds := by
  cases w with
  | d d' =>
    cases e
    obtain ⟨a, xs, e1, e2, e3⟩ := dp_tup (show Rp c.K F v _ from h)
    exact ⟨a, xs, e1, sqT_mono I.sub e2, e3⟩
  | o i =>
    unfold peek at e
    cases q : ℓ[i]? with
    | none => simp [q] at e
    | some l =>
      cases l with
      | un => simp [q] at e
      | xc => simp [q] at e
      | im d' =>
        simp [q] at e; subst e
        obtain ⟨u, h1, h2⟩ := I.im i _ q
        rw [show σ[i]? = some (some v) from h] at h1; cases h1
        obtain ⟨a, xs, e1, e2, e3⟩ := dp_tup h2
        exact ⟨a, xs, e1, sqT_mono I.sub e2, e3⟩
      | ow ds' => simp [q] at e
  | fr ds => exact h.elim
theorem WR.wa {w : W} {v : V} (h : WR c F H σ ℓ w v) (hf : ∀ ds, w ≠ .fr ds) : WA c F σ w v := by
  cases w with
  | d d => exact h
  | o i => exact h.1
  | fr ds => exact absurd rfl (hf ds)
theorem keep_dp {w : W} {v : V} {d : D} (I : DI c F H σ ℓ) (h : WA c F σ w v) (e : keepW ℓ w = some (d, ℓ')) : ∃ F', DI c F' H σ ℓ' ∧ Same F F' ∧ Rp c.K F' v d := by
  cases w with
  | d d' =>
    cases e
    exact ⟨F, I, Same.refl _, h⟩
  | o i =>
    unfold keepW at e
    cases q : ℓ[i]? with
    | none => simp [q] at e
    | some l =>
      cases l with
      | un => simp [q] at e
      | xc => simp [q] at e
      | im d' =>
        simp [q] at e
        obtain ⟨rfl, rfl⟩ := e
        obtain ⟨u, h1, h2⟩ := I.im i _ q
        rw [show σ[i]? = some (some v) from h] at h1; cases h1
        exact ⟨F, I, Same.refl _, h2⟩
      | ow ds =>
        simp [q] at e
        obtain ⟨rfl, rfl⟩ := e
        exact I.fzO q h
  | fr ds => exact h.elim
/-- an argument: a new list is data from here on -/
theorem lift_arg {t : CE} {H : Hp} {Q : VK} (h : lift c Wx (arg t) σ H Q) : lift c Wx t σ H Q := by
  obtain ⟨F, ℓ, I, p⟩ := h
  refine ⟨F, ℓ, I, ?_⟩
  unfold arg at p
  cases e : t ℓ with
  | none => rw [e] at p; exact p
  | some r =>
    rw [e] at p
    cases r with
    | ex x l => exact p
    | ok w l =>
      cases w with
      | d d => exact p
      | o i => exact p
      | fr ds =>
        rintro v F1 H1 I1 s1 ⟨a, vs, rfl, hF, h0, hH, hd, hn⟩
        have sf : Same F1 (upd F1 a (.lst vs)) := same_self hF
        exact p (.ref a) (upd F1 a (.lst vs)) H1 (I1.fz hF h0 hH hn) (s1.trans sf) (.lst (SqL.of upd_same) (dpAll_mono sf hd))
/-- a new list, as data that stands tracked -/
theorem lift_frz {t : CE} {H : Hp} {Q : VK} (h : ∃ F ℓ, DI c F H σ ℓ ∧ match t ℓ with
    | some (.ok (.fr ds) ℓ1) => ∀ a vs F' H', DI c F' H' σ ℓ1 → Same F F' → F' a = some (.lst vs) → RpAll c.K F' vs ds → Q (.ref a) H'
    | some (.ex x ℓ1) => ∀ cls dd F' H', DI c F' H' σ ℓ1 → Same F F' → XR c F' H' x cls dd → Wx cls dd σ H'
    | _ => False) : lift c Wx t σ H Q := by
  obtain ⟨F, ℓ, I, p⟩ := h
  refine ⟨F, ℓ, I, ?_⟩
  cases e : t ℓ with
  | none => simp only [e] at p
  | some r =>
    cases r with
    | ex x l => simp only [e] at p; exact p
    | ok w l =>
      cases w with
      | d d => simp only [e] at p
      | o i => simp only [e] at p
      | fr ds =>
        simp only [e] at p
        rintro v F1 H1 I1 s1 ⟨a, vs, rfl, hF, h0, hH, hd, hn⟩
        have sf : Same F1 (upd F1 a (.lst vs)) := same_self hF
        exact p a vs (upd F1 a (.lst vs)) H1 (I1.fz hF h0 hH hn) (s1.trans sf) upd_same (dpAll_mono sf hd)
theorem arg_nofr {t : CE} {w : W} (e : arg t ℓ = some (.ok w ℓ')) : ∀ ds, w ≠ .fr ds := by
  unfold arg at e
  intro ds z
  subst z
  cases q : t ℓ with
  | none => rw [q] at e; cases e
  | some r =>
    rw [q] at e
    cases r with
    | ex x l => cases e
    | ok w' l => cases w' <;> cases e
def bindE (t : CE) (f : W → CE) : CE := fun ℓ => match t ℓ with
  | none => none
  | some (.ex x ℓ1) => some (.ex x ℓ1)
  | some (.ok w ℓ1) => f w ℓ1
/-- an argument, then what comes behind it -/
theorem lift_bind {t : CE} {f : W → CE} {Q : VK} {R : VK} (h : lift c Wx (bindE (arg t) f) σ H Q)
    (k : ∀ F1 H1 ℓ1 w v, DI c F1 H1 σ ℓ1 → WA c F1 σ w v → PostE c F1 σ (f w ℓ1) Q Wx → R v H1) : lift c Wx t σ H R := by
  refine lift_arg ?_
  obtain ⟨F, ℓ, I, p⟩ := h
  refine ⟨F, ℓ, I, ?_⟩
  unfold bindE at p
  cases e : arg t ℓ with
  | none => rw [e] at p; exact p
  | some r =>
    rw [e] at p
    cases r with
    | ex x l => exact p
    | ok w l =>
      intro v F1 H1 I1 s1 wr
      exact k F1 H1 l w v I1 (wr.wa (arg_nofr e)) (PostE.mono s1 p)
/-- behind an argument: a second one -/
theorem post_bind {t : CE} {f : W → CE} {F1 H1 : Hp} {ℓ1 : LS} {Q : VK} (I : DI c F1 H1 σ ℓ1) (p : PostE c F1 σ (bindE (arg t) f ℓ1) Q Wx) : lift c Wx (bindE (arg t) f) σ H1 Q := ⟨F1, ℓ1, I, p⟩
/-- a result that is no object -/
theorem post_sc {d : D} {Q : VK} (I : DI c F H σ ℓ) (p : PostE c F σ (some (.ok (.d d) ℓ)) Q Wx) (s : isSc d = true) : Q (scV d) H := p _ F H I (Same.refl _) (dp_sc s)
theorem post_int {i : Int} {Q : VK} (I : DI c F H σ ℓ) (p : PostE c F σ (some (.ok (.d (.int i)) ℓ)) Q Wx) : Q (.int i) H := post_sc I p rfl
theorem post_str {i : Str} {Q : VK} (I : DI c F H σ ℓ) (p : PostE c F σ (some (.ok (.d (.str i)) ℓ)) Q Wx) : Q (.str i) H := post_sc I p rfl
theorem post_bool {i : Bool} {Q : VK} (I : DI c F H σ ℓ) (p : PostE c F σ (some (.ok (.d (.bool i)) ℓ)) Q Wx) : Q (.bl i) H := post_sc I p rfl
theorem post_d {d : D} {v : V} {Q : VK} (I : DI c F H σ ℓ) (p : PostE c F σ (some (.ok (.d d) ℓ)) Q Wx) (h : Rp c.K F v d) : Q v H := p _ F H I (Same.refl _) h
/-- a new list -/
theorem post_newL {ds : List D} {vs : List V} {Q : VK} (I : DI c F H σ ℓ) (p : PostE c F σ (some (.ok (.fr ds) ℓ)) Q Wx) (h : RpAll c.K F vs ds) {a : Addr} (ha : H a = none) : Q (.ref a) (upd H a (.lst vs)) := by
  refine p _ F _ (I.new ha) (Same.refl _) ⟨a, vs, rfl, not_frozen I.sub ha, I.ent.free ha, upd_same, h, fun i es e z => ?_⟩
  obtain ⟨b, us, h1, h2, h3, h4, h5⟩ := I.ow i es e
  rw [z] at h1; cases h1
  rw [ha] at h4; cases h4
/-- a new tuple -/
theorem post_newT {ds : List D} {vs : List V} {Q : VK} (I : DI c F H σ ℓ) (p : PostE c F σ (some (.ok (.d (.tuple ds)) ℓ)) Q Wx) (h : RpAll c.K F vs ds) {a : Addr} (ha : H a = none) : Q (.ref a) (upd H a (.tup vs)) :=
  p _ (upd F a (.tup vs)) _ (I.newF ha) (same_self (not_frozen I.sub ha)) (.tup (SqT.of upd_same) (dpAll_mono (same_self (not_frozen I.sub ha)) h))
end
end DL

/-! DL2: rules for expressions. -/
namespace DL
open PySem PySem.Spec PyProof.Rows L2

structure Fr0 where
  F0 : Hp
  H0 : Hp
  W : WX
  xq : Option XQ
abbrev cX (X : Cx) (B : Fr0) : DC := ⟨X.K, X.mg, B.F0, B.H0, B.xq⟩
abbrev DE (X : Cx) (B : Fr0) (e : Expr) (t : CE) : Prop := PE X e (lift (cX X B) B.W t)
abbrev DT (X : Cx) (B : Fr0) (e : Expr) (t : CT) : Prop := PT X e (liftT (cX X B) B.W t)
abbrev DW (X : Cx) (B : Fr0) (e : Expr) (t : CT) : Prop := PW X e (liftT (cX X B) B.W t)
abbrev DA (X : Cx) (B : Fr0) (es : List Expr) (t : CA) : Prop := PA X es (liftA (cX X B) B.W t)
abbrev DS (X : Cx) (B : Fr0) (s : Stmt) (t : CS) : Prop := PS X s (liftS (cX X B) B.W t)
abbrev DSs (X : Cx) (B : Fr0) (s : List Stmt) (t : CS) : Prop := PSs X s (liftS (cX X B) B.W t)
section
variable {X : Cx} {e : Expr}
theorem peImp {t t' : TE} (h : PE X e t) (k : ∀ σ H Q, t' σ H Q → t σ H Q) : PE X e t' := ⟨fun pins s σ H Q I q => h.run pins s σ H Q I (k _ _ _ q)⟩
theorem ptImp {t t' : TT} (h : PT X e t) (k : ∀ σ H Q, t' σ H Q → t σ H Q) : PT X e t' := ⟨fun pins s σ H Q I q => h.run pins s σ H Q I (k _ _ _ q)⟩
theorem pwImp {t t' : TT} (h : PW X e t) (k : ∀ σ H Q, t' σ H Q → t σ H Q) : PW X e t' := ⟨fun wh pins s σ H Q I q => h.run wh pins s σ H Q I (k _ _ _ q)⟩
theorem paImp {es : List Expr} {t t' : TA} (h : PA X es t) (k : ∀ σ H Q, t' σ H Q → t σ H Q) : PA X es t' := ⟨fun pos pins s σ H Q I q => h.run pos pins s σ H Q I (k _ _ _ q)⟩
theorem psImp {s : Stmt} {t t' : TS} (h : PS X s t) (k : ∀ D σ H, t' D σ H → t D σ H) : PS X s t' := ⟨fun pins s σ H D I q => h.run pins s σ H D I (k _ _ _ q)⟩
theorem pssImp {s : List Stmt} {t t' : TS} (h : PSs X s t) (k : ∀ D σ H, t' D σ H → t D σ H) : PSs X s t' := ⟨fun pins s σ H D I q => h.run pins s σ H D I (k _ _ _ q)⟩
end

section
variable {c : DC} {F F' H H' F1 H1 : Hp} {σ : St} {ℓ ℓ' ℓ1 : LS} {Wx : WX}
theorem pbind {t : CE} {f : W → CE} {Q : VK} {R : VK} (I : DI c F1 H1 σ ℓ1) (p : PostE c F1 σ (bindE (arg t) f ℓ1) Q Wx)
    (k : ∀ F2 H2 ℓ2 w v, DI c F2 H2 σ ℓ2 → Same F1 F2 → WA c F2 σ w v → PostE c F2 σ (f w ℓ2) Q Wx → R v H2) : lift c Wx t σ H1 R := by
  refine lift_arg ⟨F1, ℓ1, I, ?_⟩
  unfold bindE at p
  cases e : arg t ℓ1 with
  | none => rw [e] at p; exact p
  | some r =>
    rw [e] at p
    cases r with
    | ex x l => exact p
    | ok w l =>
      intro v F2 H2 I2 s2 wr
      exact k F2 H2 l w v I2 s2 (wr.wa (arg_nofr e)) (PostE.mono s2 p)

/-! ### names, constants -/
def dv (i : Nat) : CE := fun ℓ => match ℓ[i]? with
  | some (.im d) => some (.ok (.d d) ℓ)
  | some (.ow _) => some (.ok (.o i) ℓ)
  | _ => none
def dk (d : D) : CE := fun ℓ => some (.ok (.d d) ℓ)
theorem lift_dv {i : Nat} {Q : VK} (h : lift c Wx (dv i) σ H Q) : tVar i σ H Q := by
  obtain ⟨F, ℓ, I, p⟩ := h
  unfold dv at p
  cases q : ℓ[i]? with
  | none => simp only [q] at p; exact p.elim
  | some l =>
    cases l with
    | un => simp only [q] at p; exact p.elim
    | xc => simp only [q] at p; exact p.elim
    | im d =>
      simp only [q] at p
      obtain ⟨v, h1, h2⟩ := I.im i d q
      exact ⟨v, h1, p v F H I (Same.refl _) h2⟩
    | ow ds =>
      simp only [q] at p
      obtain ⟨a, vs, h1, _⟩ := I.ow i ds q
      exact ⟨_, h1, p _ F H I (Same.refl _) ⟨h1, ds, q⟩⟩
theorem lift_dk {d : D} {v : V} {Q : VK} (hv : ∀ F, Rp c.K F v d) (h : lift c Wx (dk d) σ H Q) : tC v σ H Q := by
  obtain ⟨F, ℓ, I, p⟩ := h
  exact p v F H I (Same.refl _) (hv F)

/-! ### operators -/
def d2 (f : D → D → Option W) (ta tb : CE) : CE := bindE (arg ta) fun wa => bindE (arg tb) fun wb ℓ =>
  match peek ℓ wa, peek ℓ wb with
  | some x, some y => (match f x y with
    | some w => some (.ok w ℓ)
    | none => none)
  | _, _ => none
theorem lift_d2 {f : D → D → Option W} {ta tb : CE} {r : R2}
    (hr : ∀ F H ℓ wa wb u v x y w Q, DI c F H σ ℓ → WA c F σ wa u → WA c F σ wb v → peek ℓ wa = some x → peek ℓ wb = some y → f x y = some w → PostE c F σ (some (.ok w ℓ)) Q Wx → r u v H Q)
    {Q : VK} (h : lift c Wx (d2 f ta tb) σ H Q) : tOp r (lift c Wx ta) (lift c Wx tb) σ H Q := by
  obtain ⟨F, ℓ, I, p⟩ := h
  refine pbind I p fun F1 H1 ℓ1 wa u I1 s1 a1 p1 => ?_
  refine pbind I1 p1 fun F2 H2 ℓ2 wb v I2 s2 a2 p2 => ?_
  cases e1 : peek ℓ2 wa with
  | none => simp only [e1] at p2; exact p2.elim
  | some x =>
    cases e2 : peek ℓ2 wb with
    | none => simp only [e1, e2] at p2; exact p2.elim
    | some y =>
      simp only [e1, e2] at p2
      cases e3 : f x y with
      | none => simp only [e3] at p2; exact p2.elim
      | some w =>
        simp only [e3] at p2
        exact hr F2 H2 ℓ2 wa wb u v x y w Q I2 (a1.mono s2) a2 e1 e2 e3 p2
def d1 (f : D → Option W) (ta : CE) : CE := bindE (arg ta) fun wa ℓ =>
  match peek ℓ wa with
  | some x => (match f x with
    | some w => some (.ok w ℓ)
    | none => none)
  | none => none
theorem lift_d1 {f : D → Option W} {ta : CE} {R : VK} {Q : VK}
    (hr : ∀ F H ℓ wa u x w, DI c F H σ ℓ → WA c F σ wa u → peek ℓ wa = some x → f x = some w → PostE c F σ (some (.ok w ℓ)) Q Wx → R u H)
    (h : lift c Wx (d1 f ta) σ H Q) : lift c Wx ta σ H R := by
  obtain ⟨F, ℓ, I, p⟩ := h
  refine pbind I p fun F1 H1 ℓ1 wa u I1 s1 a1 p1 => ?_
  cases e1 : peek ℓ1 wa with
  | none => simp only [e1] at p1; exact p1.elim
  | some x =>
    simp only [e1] at p1
    cases e3 : f x with
    | none => simp only [e3] at p1; exact p1.elim
    | some w =>
      simp only [e3] at p1
      exact hr F1 H1 ℓ1 wa u x w I1 a1 e1 e3 p1
end

/-- sizes -/
abbrev mulOk (i j : Int) : Bool := decide (i.natAbs < 18446744073709551616) || decide (j.natAbs < 18446744073709551616) || decide (i.natAbs.log2 + j.natAbs.log2 < 1000000)
abbrev divOk (j : Int) : Bool := decide (j ≠ 0) && (decide (j.natAbs < 1073741824) || (decide (0 < j) && decide (j.natAbs.log2 < 9000)))
def fAdd : D → D → Option W
  | .int i, .int j => some (.d (.int (i + j)))
  | .str x, .str y => if x.length + y.length ≤ 16777216 then some (.d (.str (x ++ y))) else none
  | .list xs, .list ys => if xs.length + ys.length ≤ 16777216 then some (.fr (xs ++ ys)) else none
  | .tuple xs, .tuple ys => if xs.length + ys.length ≤ 16777216 && !xs.isEmpty && !ys.isEmpty then some (.d (.tuple (xs ++ ys))) else none
  | _, _ => none
def fSub : D → D → Option W
  | .int i, .int j => some (.d (.int (i - j)))
  | _, _ => none
def strRep (z : Str) (k : Int) : Str := ⟨((List.replicate k.toNat z.cps.toList).flatten).toArray⟩
theorem rep_one (z : Str) : strRep z 1 = z := by
  obtain ⟨c⟩ := z
  simp [strRep]
theorem rep_neg {z : Str} {k : Int} (h : k < 1) : strRep z k = Str.empty := by
  have : k.toNat = 0 := by omega
  simp [strRep, this]; rfl
theorem rep_nil {z : Str} {k : Int} (h : z.length = 0) : strRep z k = z := by
  obtain ⟨c⟩ := z
  have hc : c = #[] := by simpa [Str.length] using h
  subst hc
  simp [strRep]
theorem rep_fold (z : Str) (n : Nat) : (List.replicate n z.cps).foldl (· ++ ·) #[] = ((List.replicate n z.cps.toList).flatten).toArray := by
  have key : ∀ (m : Nat) (acc : Array Nat), (List.replicate m z.cps).foldl (· ++ ·) acc = acc ++ ((List.replicate m z.cps.toList).flatten).toArray := fun m => by
    induction m with
    | zero => intro acc; simp
    | succ m ih =>
      intro acc
      rw [List.replicate_succ, List.foldl_cons, ih, List.replicate_succ, List.flatten_cons]
      apply Array.toList_inj.mp
      simp
  rw [key]; simp
def fMul : D → D → Option W
  | .int i, .int j => if mulOk i j then some (.d (.int (i * j))) else none
  | .str z, .int k => if k < 9223372036854775808 && -9223372036854775808 ≤ k && z.length * k.toNat ≤ 16777216 then some (.d (.str (strRep z k))) else none
  | _, _ => none
def fDiv : D → D → Option W
  | .int i, .int j => if divOk j then some (.d (.int (i.fdiv j))) else none
  | _, _ => none
def fMod : D → D → Option W
  | .int i, .int j => if j ≠ 0 then some (.d (.int (i.fmod j))) else none
  | _, _ => none
def fPow : D → D → Option W
  | .int i, .int j => if 0 ≤ j && j ≤ 1000000 && decide (i.natAbs < 18446744073709551616) then some (.d (.int (i ^ j.toNat))) else none
  | _, _ => none
section
variable {X : Cx} {B : Fr0} {a b e : Expr} {ta tb : CE} {pos : Pos}
theorem mulOk_ok {i j : Int} (h : mulOk i j = true) : IntMulOk i j := by
  simp only [mulOk, Bool.or_eq_true, decide_eq_true_eq] at h
  rcases h with (h | h) | h
  · exact .of_left (intBits_le_64 (by omega) (by omega))
  · exact .of_right (intBits_le_64 (by omega) (by omega))
  · exact CMulW.ok h
theorem sizeLine_num : (sizeLine : Nat) = 16777216 := sizeLine_eq
theorem de_var {x : Str} (i : Nat) (hN : X.N[i]? = some x := by rfl) (hv : Vis X.env.scope x := by first | exact Or.inl rfl | exact Or.inr (Or.inl rfl) | exact Or.inr (Or.inr rfl)) (hd : (x == ("__debug__" : Str)) = false := by decide)
    (hcd : (x == ("__classdict__" : Str)) = false := by decide) : DE X B (.Name x pos) (dv i) := peImp (pe_var hN hv hd hcd) fun _ _ _ => lift_dv
theorem de_int {i : Int} {k} : DE X B (.Constant (.int i) k pos) (dk (.int i)) := peImp pe_int fun _ _ _ h => lift_dk (fun _ => .int i) h
theorem de_bl {i : Bool} {k} : DE X B (.Constant (.bool i) k pos) (dk (.bool i)) := peImp pe_bl fun _ _ _ h => lift_dk (fun _ => .bl i) h
theorem de_str {i : Str} {k} : DE X B (.Constant (.str i) k pos) (dk (.str i)) := peImp pe_str fun _ _ _ h => lift_dk (fun _ => .str i) h
theorem de_non {k} : DE X B (.Constant .none k pos) (dk .none) := peImp pe_non fun _ _ _ h => lift_dk (fun _ => .non) h
theorem de_glob {x : Str} {v : V} {u : Value} {d : D} (hg : Gl X x) (hm : X.mg x = some u) (r : RelV v u) (hd : ∀ F, Rp X.K F v d) (hb : (x == ("__debug__" : Str)) = false := by decide) : DE X B (.Name x pos) (dk d) :=
  peImp (pe_glob hg hm r hb) fun _ _ _ h => lift_dk hd h

theorem rdL {pins : List (Addr × Obj)} {s : Shared} {σ : St} {H : Hp} {l : Addr} {xs : List V} (I : Inv X pins σ H s) (h : Rd H l (.lst xs)) :
    xs.length ≤ sizeLine ∧ ∃ (its : List Value) (n : Nat), Vals xs its ∧ xs.length = its.length ∧ s.heap.get? l = some { cls := .type "list", data := .seq its.toArray n } := by
  obtain ⟨z, its, n, r, e⟩ := h.ok I.hok
  exact ⟨z, its, n, r, r.length, e⟩
theorem op_catR : OpR X (binaryOp .Add) (fun x y H Q => ∃ p q xs ys, x = .ref p ∧ y = .ref q ∧ SqL X.K H p xs ∧ SqL X.K H q ys ∧ xs.length + ys.length ≤ sizeLine ∧ ∀ l, H l = none → Q (.ref l) (upd H l (.lst (xs ++ ys)))) := by
  intro pins s σ H x y v u Q I rx ry h
  obtain ⟨l, b, xs, zs, rfl, rfl, hH, hB, hz, q⟩ := h
  cases rx
  cases ry
  obtain ⟨its, r, ⟨⟨c1, d1, t1, sl1⟩, n1, g1, e1, _, k1⟩, z1⟩ := I.list hH
  obtain ⟨its2, r2, ⟨⟨c2, d2, t2, sl2⟩, n2, g2, e2, _, k2⟩, z2⟩ := I.list hB
  simp only at e1 k1 e2 k2
  subst e1 k1 e2 k2
  have fit : its.toArray.size + its2.toArray.size ≤ sizeLine := by rw [List.size_toArray, List.size_toArray, ← r.length, ← r2.length]; exact hz
  refine concat_meets ⟨_, g1, rfl⟩ ⟨_, g2, rfl⟩ noFill_list_add seq_list_add F.slot_list_add F.entry_list_add (F.args_list_add_2 _ _) (PyProof.Rows.list_addW l b its.toArray its2.toArray n1 n2 d1 d2 sl1 sl2 fit) ⟨g1, g2, ?_⟩
  have ea : its.toArray ++ its2.toArray = (its ++ its2).toArray := by simp
  rw [ea]
  exact ⟨.ref _, _, I.lnew (t' := s.toks) (r.append r2) (by rw [List.length_append]; omega), rfl, q _ I.fresh⟩
theorem op_addAll : OpR X (binaryOp .Add) (fun x y H Q => rI0 (fun i j => .int (i + j)) x y H Q ∨ (∃ i j, x = .str i ∧ y = .str j ∧ i.length + j.length ≤ sizeLine ∧ Q (.str (i ++ j)) H) ∨ rCatT X.K x y H Q ∨
    (∃ p q xs ys, x = .ref p ∧ y = .ref q ∧ SqL X.K H p xs ∧ SqL X.K H q ys ∧ xs.length + ys.length ≤ sizeLine ∧ ∀ l, H l = none → Q (.ref l) (upd H l (.lst (xs ++ ys))))) :=
  op_add.or (op_add_str.or (op_catT.or op_catR))
theorem de_add (ha : DE X B a ta) (hb : DE X B b tb) : DE X B (.BinOp a .Add b pos) (d2 fAdd ta tb) := by
  refine peImp (pe_op op_addAll ha hb) fun σ H Q h => lift_d2 (fun F H ℓ wa wb u v x y w Q I a1 a2 e1 e2 e3 p => ?_) h
  have hs := sizeLine_num
  unfold fAdd at e3
  split at e3
  · cases e3
    rw [dp_int (peek_dp I a1 e1), dp_int (peek_dp I a2 e2)]
    exact .inl ⟨_, _, rfl, rfl, post_int I p⟩
  · split at e3
    · cases e3
      rw [dp_str (peek_dp I a1 e1), dp_str (peek_dp I a2 e2)]
      exact .inr (.inl ⟨_, _, rfl, rfl, by rw [hs]; assumption, post_str I p⟩)
    · cases e3
  · split at e3
    · rename_i hl
      cases e3
      obtain ⟨p1, vs, rfl, q1, r1⟩ := peek_lst I a1 e1
      obtain ⟨p2, us, rfl, q2, r2⟩ := peek_lst I a2 e2
      exact .inr (.inr (.inr ⟨p1, p2, vs, us, rfl, rfl, q1, q2, by rw [dpAll_len r1, dpAll_len r2, hs]; exact hl, fun l hl' => post_newL I p (dpAll_app r1 r2) hl'⟩))
    · cases e3
  · split at e3
    · rename_i hl
      cases e3
      simp only [Bool.and_eq_true, decide_eq_true_eq, Bool.not_eq_true'] at hl
      obtain ⟨⟨hl, n1⟩, n2⟩ := hl
      obtain ⟨p1, vs, rfl, q1, r1⟩ := peek_tup I a1 e1
      obtain ⟨p2, us, rfl, q2, r2⟩ := peek_tup I a2 e2
      have l1 := dpAll_len r1
      have l2 := dpAll_len r2
      have n1' : vs ≠ [] := fun z => by
        rw [z] at l1
        have : _ = [] := List.eq_nil_of_length_eq_zero l1.symm
        rw [this] at n1
        exact absurd n1 (by decide)
      have n2' : us ≠ [] := fun z => by
        rw [z] at l2
        have : _ = [] := List.eq_nil_of_length_eq_zero l2.symm
        rw [this] at n2
        exact absurd n2 (by decide)
      exact .inr (.inr (.inl ⟨p1, p2, vs, us, rfl, rfl, q1, q2, n1', by rw [l1, l2, hs]; exact hl, fun z => absurd z n2', fun z l hl' => post_newT I p (dpAll_app r1 r2) hl'⟩))
    · cases e3
  · cases e3
theorem de_sub (ha : DE X B a ta) (hb : DE X B b tb) : DE X B (.BinOp a .Sub b pos) (d2 fSub ta tb) := by
  refine peImp (pe_op op_sub ha hb) fun σ H Q h => lift_d2 (fun F H ℓ wa wb u v x y w Q I a1 a2 e1 e2 e3 p => ?_) h
  unfold fSub at e3
  split at e3
  · cases e3
    rw [dp_int (peek_dp I a1 e1), dp_int (peek_dp I a2 e2)]
    exact ⟨_, _, rfl, rfl, post_int I p⟩
  · cases e3
theorem op_mulR : OpR X (binaryOp .Mult) (rI IntMulOk fun i j => .int (i * j)) := opI fun _ _ _ _ _ _ _ hc q => mul_int q hc
theorem rpRep {K : PySem.W.Frag} {F : Hp} {vs : List V} {ds : List D} (h : RpAll K F vs ds) : ∀ k : Nat, RpAll K F (List.replicate k vs).flatten (List.replicate k ds).flatten
  | 0 => .nil
  | k + 1 => by
    rw [List.replicate_succ, List.replicate_succ, List.flatten_cons, List.flatten_cons]
    exact dpAll_app h (rpRep h k)
/-- a list that is read, times an int -/
theorem op_repR : OpR X (binaryOp .Mult) (fun x y H Q => ∃ l k xs, x = .ref l ∧ y = .int k ∧ Rd H l (.lst xs) ∧ -(2 ^ 63) ≤ k ∧ k < 2 ^ 63 ∧ xs.length * k.toNat ≤ sizeLine ∧
    ∀ p, H p = none → Q (.ref p) (upd H p (.lst (List.replicate k.toNat xs).flatten))) := by
  intro pins s σ H x y v u Q I rx ry ⟨l, k, xs, ex, ey, hH, h1, h2, hz, q⟩
  subst ex; subst ey
  cases rx
  obtain ⟨t, rfl⟩ := ry
  obtain ⟨z, its, n, r, hl, e⟩ := rdL I hH
  have big : (sizeLine : Nat) ≤ (2 ^ 63 - 1) / 8 := by decide
  have len0 : its.toArray.size * k.toNat ≤ sizeLine := by
    rw [List.size_toArray, ← hl]
    exact hz
  have cap0 : ¬ its.toArray.size * k.toNat > (2 ^ 63 - 1) / 8 := by omega
  have fit0 : ¬ (!Builtin.List.listFitsIndex k) = true := by rw [fitsIndex_both h1 h2]; simp
  have long0 : ¬ Builtin.List.listTooLong (its.toArray.size * k.toNat) = true := by rw [notLongL len0]; simp
  have all0 : ∀ m : Nat, List.foldl (fun x1 x2 => x1 ++ x2) #[] (List.replicate m its.toArray) = (List.replicate m its).flatten.toArray := fun m => by
    have := foldl_rep its m []
    simpa using this
  have new0 : List.foldl (fun x1 x2 => x1 ++ x2) #[] (List.replicate (if its.toArray.isEmpty = true then 0 else k.toNat) its.toArray) = (List.replicate k.toNat its).flatten.toArray := by
    rw [all0]
    cases its <;> simp
  have typ : s.TypeIs (.ref l) "list" := ⟨_, e, rfl⟩
  refine wpAny_binaryOp_repeat_ref (T := "list") (U := "int") (by decide) typ (fun s' => typeIs_int s' k t) noFill_list_mul
    F.fills_int_mul F.slot_int_rmul repeat_list F.slot_int_index.lookup (call_meets F.slot_int_rmul (typeIs_int s k t)
      F.entry_int_rmul (F.args_int_rmul_2 _ _) (int___rmul___int_list k t l its.toArray n) ⟨e, rfl, typ, ?_⟩)
  refine call_meets F.slot_list_mul typ F.entry_list_mul (F.args_list_mul_2 _ _)
    (AutoListH.list___mul___list_int_3 l its.toArray n k t fit0 cap0 long0) ⟨e, ?_⟩
  rw [new0]
  have J := I.lnew (t' := s.toks) (r.rep k.toNat) (by rw [PyProof.Rows.lm_len_rep_flat, Nat.mul_comm]; exact hz)
  exact ⟨.ref _, _, J, rfl, q _ I.fresh⟩
/-- text * int -/
theorem op_mulS : OpR X (binaryOp .Mult) (fun x y H Q => ∃ (z : Str) (k : Int), x = .str z ∧ y = .int k ∧ -(2 ^ 63) ≤ k ∧ k < 2 ^ 63 ∧ z.length * k.toNat ≤ 16777216 ∧ Q (.str (strRep z k)) H) := by
  intro pins s σ H x y v u Q I rx ry ⟨z, k, ex, ey, h1, h2, hz, q⟩
  subst ex; subst ey
  obtain ⟨t, rfl⟩ := rx
  obtain ⟨t', rfl⟩ := ry
  have hs : (sizeLine : Nat) = 16777216 := sizeLine_eq
  refine PySem.P.mul_str ?_ (fun hn hb => ?_) (fun hn hb => ?_) ?_
  · rw [decide_eq_false (by omega), decide_eq_false (by omega)]; rfl
  · have kn : 0 < k := by omega
    have e1 : (z.length : Int) * k ≤ 16777216 := by
      have : ((z.length * k.toNat : Nat) : Int) ≤ 16777216 := by omega
      rw [Int.natCast_mul, Int.toNat_of_nonneg (by omega)] at this
      exact this
    have : (z.length : Int) ≤ (2 ^ 63 - 1) / k := by
      rw [Int.le_ediv_iff_mul_le kn]
      omega
    omega
  · unfold Builtin.Str.tooLong
    rw [hs]
    exact decide_eq_false (by omega)
  · by_cases hn : k < 1
    · rw [if_pos hn]
      rw [rep_neg hn] at q
      exact ⟨by decide, ⟨.str _, H, I.tok _, ⟨_, rfl⟩, q⟩⟩
    · rw [if_neg hn]
      by_cases hb : (k == 1 || z.length == 0) = true
      · rw [if_pos hb]
        have e : strRep z k = z := by
          simp only [Bool.or_eq_true, beq_iff_eq] at hb
          rcases hb with e | e
          · rw [e]; exact rep_one z
          · exact rep_nil e
        rw [e] at q
        exact ⟨.str _, H, I.tok _, ⟨_, rfl⟩, q⟩
      · rw [if_neg hb]
        have e : (⟨(List.replicate k.toNat z.cps).foldl (· ++ ·) #[]⟩ : Str) = strRep z k := by
          unfold strRep; rw [rep_fold]
        rw [e]
        refine ⟨?_, ⟨.str _, H, I.tok _, ⟨_, rfl⟩, q⟩⟩
        have hl : ∀ (m : Nat) (l : List Nat), ((List.replicate m l).flatten).length = l.length * m := fun m l => by
          induction m with
          | zero => simp
          | succ m ih => rw [List.replicate_succ, List.flatten_cons, List.length_append, ih, Nat.mul_succ, Nat.add_comm]
        unfold strRep
        simp [Str.length, hl] at hz ⊢
        rw [hs]
        exact hz
theorem de_mul (ha : DE X B a ta) (hb : DE X B b tb) : DE X B (.BinOp a .Mult b pos) (d2 fMul ta tb) := by
  refine peImp (pe_op (op_mulR.or op_mulS) ha hb) fun σ H Q h => lift_d2 (fun F H ℓ wa wb u v x y w Q I a1 a2 e1 e2 e3 p => ?_) h
  have hs := sizeLine_num
  unfold fMul at e3
  split at e3
  · split at e3
    · cases e3
      rw [dp_int (peek_dp I a1 e1), dp_int (peek_dp I a2 e2)]
      exact .inl ⟨_, _, rfl, rfl, mulOk_ok (by assumption), post_int I p⟩
    · cases e3
  · split at e3
    · rename_i hl
      cases e3
      simp only [Bool.and_eq_true, decide_eq_true_eq] at hl
      obtain ⟨⟨l1, l2⟩, l3⟩ := hl
      rw [dp_str (peek_dp I a1 e1), dp_int (peek_dp I a2 e2)]
      exact .inr ⟨_, _, rfl, rfl, by omega, by omega, l3, post_str I p⟩
    · cases e3
  · cases e3
/-- [..] * n -/
def dmulL (ta tb : CE) : CE := fun ℓ => match ta ℓ with
  | some (.ok (.fr ds) ℓ1) => (match arg tb ℓ1 with
    | some (.ok wb ℓ2) => (match peek ℓ2 wb with
      | some (.int k) => if k < 9223372036854775808 && -9223372036854775808 ≤ k && ds.length * k.toNat ≤ 16777216 then some (.ok (.fr (List.replicate k.toNat ds).flatten) ℓ2) else none
      | _ => none)
    | some (.ex x ℓ2) => some (.ex x ℓ2)
    | none => none)
  | some (.ex x ℓ1) => some (.ex x ℓ1)
  | _ => none
theorem de_mulL (ha : DE X B a ta) (hb : DE X B b tb) : DE X B (.BinOp a .Mult b pos) (dmulL ta tb) := by
  refine peImp (pe_op op_repR ha hb) fun σ H Q h => ?_
  obtain ⟨F, ℓ, I, p⟩ := h
  refine lift_frz ⟨F, ℓ, I, ?_⟩
  unfold dmulL at p
  have hs := sizeLine_num
  cases e : ta ℓ with
  | none => simp only [e] at p; exact p.elim
  | some r =>
    cases r with
    | ex x l => simp only [e] at p; exact p
    | ok w l =>
      cases w with
      | d d => simp only [e] at p; exact p.elim
      | o i => simp only [e] at p; exact p.elim
      | fr ds =>
        simp only [e] at p ⊢
        intro q vs F1 H1 I1 s1 hF hd
        refine lift_arg ⟨F1, l, I1, ?_⟩
        cases e2 : arg tb l with
        | none => simp only [e2] at p; exact p.elim
        | some r2 =>
          cases r2 with
          | ex x l2 => simp only [e2] at p; exact fun cls dd F' H' I' s' xr => p cls dd F' H' I' (s1.trans s') xr
          | ok wb l2 =>
            simp only [e2] at p
            intro v F2 H2 I2 s2 wr
            cases e3 : peek l2 wb with
            | none => simp only [e3] at p; exact p.elim
            | some y =>
              simp only [e3] at p
              cases y with
              | int k =>
                simp only at p
                split at p
                · rename_i hl
                  simp only [Bool.and_eq_true, decide_eq_true_eq] at hl
                  obtain ⟨⟨l1, l2'⟩, l3⟩ := hl
                  rw [dp_int (peek_dp I2 (wr.wa (arg_nofr e2)) e3)]
                  exact ⟨q, _, vs, rfl, rfl, .inl (I2.sub _ _ (s2 _ _ hF)), by omega, by omega, by rw [dpAll_len hd, hs]; exact l3, fun l' hl' => post_newL I2 (PostE.mono (s1.trans s2) p) (rpRep (dpAll_mono s2 hd) _) hl'⟩
                · exact p.elim
              | _ => exact p.elim
theorem op_fdivA : OpR X (binaryOp .FloorDiv) (rI (fun _ j => divOk j = true) fun i j => .int (i.fdiv j)) := opI fun i j _ _ _ _ _ hc q => by
  simp only [divOk, Bool.and_eq_true, Bool.or_eq_true, decide_eq_true_eq] at hc
  obtain ⟨h0, h1 | ⟨h1, h2⟩⟩ := hc
  · exact floordiv_int h0 q (.inl (PyProof.noPylong_small h1))
  · exact floordiv_int h0 q (.inl (PyProof.noPylong_of_log2 h2))
theorem de_fdiv (ha : DE X B a ta) (hb : DE X B b tb) : DE X B (.BinOp a .FloorDiv b pos) (d2 fDiv ta tb) := by
  refine peImp (pe_op op_fdivA ha hb) fun σ H Q h => lift_d2 (fun F H ℓ wa wb u v x y w Q I a1 a2 e1 e2 e3 p => ?_) h
  unfold fDiv at e3
  split at e3
  · split at e3
    · cases e3
      rw [dp_int (peek_dp I a1 e1), dp_int (peek_dp I a2 e2)]
      exact ⟨_, _, rfl, rfl, by assumption, post_int I p⟩
    · cases e3
  · cases e3
theorem de_mod (ha : DE X B a ta) (hb : DE X B b tb) : DE X B (.BinOp a .Mod b pos) (d2 fMod ta tb) := by
  refine peImp (pe_op op_modN ha hb) fun σ H Q h => lift_d2 (fun F H ℓ wa wb u v x y w Q I a1 a2 e1 e2 e3 p => ?_) h
  unfold fMod at e3
  split at e3
  · split at e3
    · cases e3
      rw [dp_int (peek_dp I a1 e1), dp_int (peek_dp I a2 e2)]
      exact ⟨_, _, rfl, rfl, by assumption, post_int I p⟩
    · cases e3
  · cases e3
theorem de_pow (ha : DE X B a ta) (hb : DE X B b tb) : DE X B (.BinOp a .Pow b pos) (d2 fPow ta tb) := by
  refine peImp (pe_op op_pow ha hb) fun σ H Q h => lift_d2 (fun F H ℓ wa wb u v x y w Q I a1 a2 e1 e2 e3 p => ?_) h
  unfold fPow at e3
  split at e3
  · split at e3
    · rename_i hl
      cases e3
      simp only [Bool.and_eq_true, decide_eq_true_eq] at hl
      rw [dp_int (peek_dp I a1 e1), dp_int (peek_dp I a2 e2)]
      exact ⟨_, _, rfl, rfl, ⟨hl.1.1, hl.1.2, by have := hl.2; omega⟩, post_int I p⟩
    · cases e3
  · cases e3
end
end DL

/-! DL3: comparisons, tests, and / or / not, arguments, calls. -/
namespace DL
open PySem PySem.Spec PyProof.Rows L2

def shp (d : D) : Bool := SeqAt.shaped d
def strIn (x y : Str) : Bool := !(Builtin.Str.occurrences y x 0 y.length 1).isEmpty
def fEq : D → D → Option W
  | .str x, .str y => some (.d (.bool (x == y)))
  | x, y => if shp x && shp y then some (.d (.bool (PyData.eqv x y))) else none
def fNe : D → D → Option W
  | .str x, .str y => some (.d (.bool (!(x == y))))
  | x, y => if shp x && shp y then some (.d (.bool (!PyData.eqv x y))) else none
def isNone : D → Bool
  | .none => true
  | _ => false
def fIs : D → D → Option W
  | x, .none => some (.d (.bool (isNone x)))
  | _, _ => none
def fIsNot : D → D → Option W
  | x, .none => some (.d (.bool (!isNone x)))
  | _, _ => none
def fLt : D → D → Option W
  | .int i, .int j => some (.d (.bool (decide (i < j))))
  | .str x, .str y => some (.d (.bool (decide (x.cps.toList < y.cps.toList))))
  | _, _ => none
def fLe : D → D → Option W
  | .int i, .int j => some (.d (.bool (decide (i ≤ j))))
  | _, _ => none
def fGt : D → D → Option W
  | .int i, .int j => some (.d (.bool (decide (j < i))))
  | _, _ => none
def fGe : D → D → Option W
  | .int i, .int j => some (.d (.bool (decide (j ≤ i))))
  | _, _ => none
def inB : D → D → Option Bool
  | x, .list ds => if shp x && shp (.list ds) then some (ds.any fun z => PyData.eqv z x) else none
  | x, .tuple ds => if isSc x && ds.all isSc then some (ds.any fun z => PyData.eqv z x) else none
  | .str x, .str y => some (strIn x y)
  | _, _ => none
def fIn (x y : D) : Option W := (inB x y).map fun b => .d (.bool b)
def fNotIn (x y : D) : Option W := (inB x y).map fun b => .d (.bool !b)

section
variable {X : Cx} {B : Fr0} {a b e e' : Expr} {ta tb tc : CE} {pos : Pos}
def dtv (t : CE) : CT := fun ℓ => match arg t ℓ with
  | some (.ok (.d (.bool b)) ℓ1) => some (.ok b ℓ1)
  | some (.ex x ℓ1) => some (.ex x ℓ1)
  | _ => none
theorem lift_dtv {c : DC} {Wx : WX} {t : CE} {σ : L2.St} {H : Hp} {Q : Bool → Hp → Prop} (h : liftT c Wx (dtv t) σ H Q) : lift c Wx t σ H fun x H' => ∃ k, x = .bl k ∧ Q k H' := by
  obtain ⟨F, ℓ, I, p⟩ := h
  refine lift_arg ⟨F, ℓ, I, ?_⟩
  unfold dtv at p
  cases e : arg t ℓ with
  | none => rw [e] at p; exact p
  | some r =>
    rw [e] at p
    cases r with
    | ex x l => exact p
    | ok w l =>
      cases w with
      | d d =>
        cases d with
        | bool b => exact fun v F1 H1 I1 s1 wr => ⟨b, dp_bool wr, p F1 H1 I1 s1⟩
        | _ => exact p.elim
      | o i => exact p.elim
      | fr ds => exact p.elim
theorem isNone_v {K : PySem.W.Frag} {F : Hp} {d : D} {v : V} (h : Rp K F v d) : decide (v = .non) = isNone d := by
  cases h <;> simp [isNone]
theorem eqv_sc {x y : D} (hx : isSc x = true) (hy : isSc y = true) : eqV (scV x) (scV y) = PyData.eqv x y := by
  cases x <;> cases y <;> first
    | (exfalso; simp [isSc] at hx; done)
    | (exfalso; simp [isSc] at hy; done)
    | (simp [eqV, scV, PyData.eqv]; done)
theorem flat_sc {x : D} (hx : isSc x = true) : flatV (scV x) = true := by
  cases x <;> first
    | (exfalso; simp [isSc] at hx; done)
    | rfl
theorem all_sc {K : PySem.W.Frag} {F : Hp} : ∀ {ds : List D} {vs : List V}, RpAll K F vs ds → ds.all isSc = true → vs = ds.map scV ∧ vs.all flatV = true
  | [], _, .nil, _ => ⟨rfl, rfl⟩
  | d :: ds, _, .cons h t, s => by
    rw [List.all_cons, Bool.and_eq_true] at s
    obtain ⟨e1, e2⟩ := all_sc t s.2
    have e0 := dp_sc_eq h s.1
    subst e0
    exact ⟨by rw [e1]; rfl, by rw [List.all_cons, flat_sc s.1, e2]; rfl⟩
theorem inV_sc {x : D} (hx : isSc x = true) : ∀ {ds : List D}, ds.all isSc = true → inV (scV x) (ds.map scV) = ds.any fun z => PyData.eqv z x
  | [], _ => rfl
  | d :: ds, s => by
    rw [List.all_cons, Bool.and_eq_true] at s
    have ih := inV_sc hx s.2
    unfold inV at ih ⊢
    rw [List.map_cons, List.any_cons, List.any_cons, ih, eqv_sc s.1 hx]
theorem lx_eq {σ : L2.St} {H : Hp} {Q : VK} (h : lift (cX X B) B.W (d2 fEq ta tb) σ H Q) : tOp (fun x y H Q => rEq x y H Q ∨ rEqD X.K x y H Q) (lift (cX X B) B.W ta) (lift (cX X B) B.W tb) σ H Q := by
  refine lift_d2 (fun F H ℓ wa wb u v x y w Q I a1 a2 e1 e2 e3 p => ?_) h
  unfold fEq at e3
  split at e3
  · cases e3
    rw [dp_str (peek_dp I a1 e1), dp_str (peek_dp I a2 e2)]
    refine .inl ⟨rfl, ?_⟩
    rw [dec_str]
    exact post_bool I p
  · split at e3
    · rename_i hs
      cases e3
      rw [Bool.and_eq_true] at hs
      exact .inr ⟨x, y, rp_dp (peek_dp I a1 e1), rp_dp (peek_dp I a2 e2), hs.1, hs.2, post_bool I p⟩
    · cases e3
theorem de_eq (hu : X.A.units + 64 < cLine) (ha : DE X B a ta) (hb : DE X B b tb) : DE X B (.Compare a [.Eq] [b] pos) (d2 fEq ta tb) := peImp (pe_cmpR (op_eq.or (op_eqD hu)) ha hb (nomark _)) fun _ _ _ h => lx_eq h
theorem dt_eq (hu : X.A.units + 64 < cLine) (ha : DE X B a ta) (hb : DE X B b tb) : DT X B (.Compare a [.Eq] [b] pos) (dtv (d2 fEq ta tb)) := ptImp (pt_cmpR (op_eq.or (op_eqD hu)) ha hb (nomark _)) fun _ _ _ h => lx_eq (lift_dtv h)
theorem lx_ne {σ : L2.St} {H : Hp} {Q : VK} (h : lift (cX X B) B.W (d2 fNe ta tb) σ H Q) : tOp (fun x y H Q => rNe x y H Q ∨ rNeD X.K x y H Q) (lift (cX X B) B.W ta) (lift (cX X B) B.W tb) σ H Q := by
  refine lift_d2 (fun F H ℓ wa wb u v x y w Q I a1 a2 e1 e2 e3 p => ?_) h
  unfold fNe at e3
  split at e3
  · cases e3
    rw [dp_str (peek_dp I a1 e1), dp_str (peek_dp I a2 e2)]
    refine .inl ⟨rfl, ?_⟩
    rw [dec_str]
    exact post_bool I p
  · split at e3
    · rename_i hs
      cases e3
      rw [Bool.and_eq_true] at hs
      exact .inr ⟨x, y, rp_dp (peek_dp I a1 e1), rp_dp (peek_dp I a2 e2), hs.1, hs.2, post_bool I p⟩
    · cases e3
theorem de_ne (hu : X.A.units + 64 < cLine) (ha : DE X B a ta) (hb : DE X B b tb) : DE X B (.Compare a [.NotEq] [b] pos) (d2 fNe ta tb) := peImp (pe_cmpR (op_ne.or (op_neD hu)) ha hb (nomark _)) fun _ _ _ h => lx_ne h
theorem dt_ne (hu : X.A.units + 64 < cLine) (ha : DE X B a ta) (hb : DE X B b tb) : DT X B (.Compare a [.NotEq] [b] pos) (dtv (d2 fNe ta tb)) := ptImp (pt_cmpR (op_ne.or (op_neD hu)) ha hb (nomark _)) fun _ _ _ h => lx_ne (lift_dtv h)
theorem lx_is {σ : L2.St} {H : Hp} {Q : VK} (h : lift (cX X B) B.W (d2 fIs ta tb) σ H Q) : tOp ((fun x y H Q => y = .non ∧ Q (.bl (decide (x = .non))) H)) (lift (cX X B) B.W ta) (lift (cX X B) B.W tb) σ H Q := by
  refine lift_d2 (fun F H ℓ wa wb u v x y w Q I a1 a2 e1 e2 e3 p => ?_) h
  unfold fIs at e3
  split at e3
  · cases e3
    refine ⟨dp_none (peek_dp I a2 e2), ?_⟩
    rw [isNone_v (peek_dp I a1 e1)]
    exact post_bool I p
  · cases e3
theorem de_is (ha : DE X B a ta) (hb : DE X B b tb) : DE X B (.Compare a [.Is] [b] pos) (d2 fIs ta tb) := peImp (pe_cmpR (op_isN) ha hb (nomark _)) fun _ _ _ h => lx_is h
theorem dt_is (ha : DE X B a ta) (hb : DE X B b tb) : DT X B (.Compare a [.Is] [b] pos) (dtv (d2 fIs ta tb)) := ptImp (pt_cmpR (op_isN) ha hb (nomark _)) fun _ _ _ h => lx_is (lift_dtv h)
theorem lx_isnot {σ : L2.St} {H : Hp} {Q : VK} (h : lift (cX X B) B.W (d2 fIsNot ta tb) σ H Q) : tOp ((fun x y H Q => y = .non ∧ Q (.bl (!decide (x = .non))) H)) (lift (cX X B) B.W ta) (lift (cX X B) B.W tb) σ H Q := by
  refine lift_d2 (fun F H ℓ wa wb u v x y w Q I a1 a2 e1 e2 e3 p => ?_) h
  unfold fIsNot at e3
  split at e3
  · cases e3
    refine ⟨dp_none (peek_dp I a2 e2), ?_⟩
    rw [isNone_v (peek_dp I a1 e1)]
    exact post_bool I p
  · cases e3
theorem de_isnot (ha : DE X B a ta) (hb : DE X B b tb) : DE X B (.Compare a [.IsNot] [b] pos) (d2 fIsNot ta tb) := peImp (pe_cmpR (op_notN) ha hb (nomark _)) fun _ _ _ h => lx_isnot h
theorem dt_isnot (ha : DE X B a ta) (hb : DE X B b tb) : DT X B (.Compare a [.IsNot] [b] pos) (dtv (d2 fIsNot ta tb)) := ptImp (pt_cmpR (op_notN) ha hb (nomark _)) fun _ _ _ h => lx_isnot (lift_dtv h)
theorem lx_lt {σ : L2.St} {H : Hp} {Q : VK} (h : lift (cX X B) B.W (d2 fLt ta tb) σ H Q) : tOp ((fun x y H Q => rI0 (fun i j => .bl (decide (i < j))) x y H Q ∨ ∃ i j, x = .str i ∧ y = .str j ∧ Q (.bl (decide (i.cps.toList < j.cps.toList))) H)) (lift (cX X B) B.W ta) (lift (cX X B) B.W tb) σ H Q := by
  refine lift_d2 (fun F H ℓ wa wb u v x y w Q I a1 a2 e1 e2 e3 p => ?_) h
  unfold fLt at e3
  split at e3
  · cases e3
    exact .inl ⟨_, _, dp_int (peek_dp I a1 e1), dp_int (peek_dp I a2 e2), post_bool I p⟩
  · cases e3
    exact .inr ⟨_, _, dp_str (peek_dp I a1 e1), dp_str (peek_dp I a2 e2), post_bool I p⟩
  · cases e3
theorem de_lt (ha : DE X B a ta) (hb : DE X B b tb) : DE X B (.Compare a [.Lt] [b] pos) (d2 fLt ta tb) := peImp (pe_cmpR (op_lt.or op_lt_str) ha hb (nomark _)) fun _ _ _ h => lx_lt h
theorem dt_lt (ha : DE X B a ta) (hb : DE X B b tb) : DT X B (.Compare a [.Lt] [b] pos) (dtv (d2 fLt ta tb)) := ptImp (pt_cmpR (op_lt.or op_lt_str) ha hb (nomark _)) fun _ _ _ h => lx_lt (lift_dtv h)
theorem lx_le {σ : L2.St} {H : Hp} {Q : VK} (h : lift (cX X B) B.W (d2 fLe ta tb) σ H Q) : tOp ((rI0 fun i j => .bl (decide (i ≤ j)))) (lift (cX X B) B.W ta) (lift (cX X B) B.W tb) σ H Q := by
  refine lift_d2 (fun F H ℓ wa wb u v x y w Q I a1 a2 e1 e2 e3 p => ?_) h
  unfold fLe at e3
  split at e3
  · cases e3
    exact ⟨_, _, dp_int (peek_dp I a1 e1), dp_int (peek_dp I a2 e2), post_bool I p⟩
  · cases e3
theorem de_le (ha : DE X B a ta) (hb : DE X B b tb) : DE X B (.Compare a [.LtE] [b] pos) (d2 fLe ta tb) := peImp (pe_cmpR (op_le) ha hb (nomark _)) fun _ _ _ h => lx_le h
theorem dt_le (ha : DE X B a ta) (hb : DE X B b tb) : DT X B (.Compare a [.LtE] [b] pos) (dtv (d2 fLe ta tb)) := ptImp (pt_cmpR (op_le) ha hb (nomark _)) fun _ _ _ h => lx_le (lift_dtv h)
theorem lx_gt {σ : L2.St} {H : Hp} {Q : VK} (h : lift (cX X B) B.W (d2 fGt ta tb) σ H Q) : tOp ((rI0 fun i j => .bl (decide (j < i)))) (lift (cX X B) B.W ta) (lift (cX X B) B.W tb) σ H Q := by
  refine lift_d2 (fun F H ℓ wa wb u v x y w Q I a1 a2 e1 e2 e3 p => ?_) h
  unfold fGt at e3
  split at e3
  · cases e3
    exact ⟨_, _, dp_int (peek_dp I a1 e1), dp_int (peek_dp I a2 e2), post_bool I p⟩
  · cases e3
theorem de_gt (ha : DE X B a ta) (hb : DE X B b tb) : DE X B (.Compare a [.Gt] [b] pos) (d2 fGt ta tb) := peImp (pe_cmpR (op_gt) ha hb (nomark _)) fun _ _ _ h => lx_gt h
theorem dt_gt (ha : DE X B a ta) (hb : DE X B b tb) : DT X B (.Compare a [.Gt] [b] pos) (dtv (d2 fGt ta tb)) := ptImp (pt_cmpR (op_gt) ha hb (nomark _)) fun _ _ _ h => lx_gt (lift_dtv h)
theorem lx_ge {σ : L2.St} {H : Hp} {Q : VK} (h : lift (cX X B) B.W (d2 fGe ta tb) σ H Q) : tOp ((rI0 fun i j => .bl (decide (j ≤ i)))) (lift (cX X B) B.W ta) (lift (cX X B) B.W tb) σ H Q := by
  refine lift_d2 (fun F H ℓ wa wb u v x y w Q I a1 a2 e1 e2 e3 p => ?_) h
  unfold fGe at e3
  split at e3
  · cases e3
    exact ⟨_, _, dp_int (peek_dp I a1 e1), dp_int (peek_dp I a2 e2), post_bool I p⟩
  · cases e3
theorem de_ge (ha : DE X B a ta) (hb : DE X B b tb) : DE X B (.Compare a [.GtE] [b] pos) (d2 fGe ta tb) := peImp (pe_cmpR (op_ge) ha hb (nomark _)) fun _ _ _ h => lx_ge h
theorem dt_ge (ha : DE X B a ta) (hb : DE X B b tb) : DT X B (.Compare a [.GtE] [b] pos) (dtv (d2 fGe ta tb)) := ptImp (pt_cmpR (op_ge) ha hb (nomark _)) fun _ _ _ h => lx_ge (lift_dtv h)
theorem lx_in {σ : L2.St} {H : Hp} {Q : VK} (h : lift (cX X B) B.W (d2 fIn ta tb) σ H Q) : tOp ((fun x y H Q => rInD X.K x y H Q ∨ rIn X.K false x y H Q ∨ ∃ i j, x = .str i ∧ y = .str j ∧ Q (.bl (!(Builtin.Str.occurrences j i 0 j.length 1).isEmpty)) H)) (lift (cX X B) B.W ta) (lift (cX X B) B.W tb) σ H Q := by
  refine lift_d2 (fun F H ℓ wa wb u v x y w Q I a1 a2 e1 e2 e3 p => ?_) h
  unfold fIn at e3
  obtain ⟨r, e4, e5⟩ := Option.map_eq_some_iff.mp e3
  subst e5
  have q := post_bool I p
  unfold inB at e4
  split at e4
  · split at e4
    · rename_i hs
      cases e4
      rw [Bool.and_eq_true] at hs
      exact .inl ⟨x, _, rp_dp (peek_dp I a1 e1), rp_dp (peek_dp I a2 e2), hs.1, hs.2, q⟩
    · cases e4
  · split at e4
    · rename_i hs
      cases e4
      rw [Bool.and_eq_true] at hs
      obtain ⟨p2, vs, rfl, q2, r2⟩ := peek_tup I a2 e2
      obtain ⟨e6, e7⟩ := all_sc r2 hs.2
      have ex := dp_sc_eq (peek_dp I a1 e1) hs.1
      subst ex
      refine .inr (.inl ⟨p2, vs, rfl, .inr q2, flat_sc hs.1, e7, ?_⟩)
      rw [if_neg (by decide), e6, inV_sc hs.1 hs.2]
      exact q
    · cases e4
  · cases e4
    exact .inr (.inr ⟨_, _, dp_str (peek_dp I a1 e1), dp_str (peek_dp I a2 e2), q⟩)
  · cases e4
theorem de_in (hu : X.A.units + 65 < cLine) (ha : DE X B a ta) (hb : DE X B b tb) (hm : behindInMarks .In b = false := by rfl) : DE X B (.Compare a [.In] [b] pos) (d2 fIn ta tb) := peImp (pe_cmpR ((op_inD hu).or (op_in_seq.or op_in_str)) ha hb (hm)) fun _ _ _ h => lx_in h
theorem dt_in (hu : X.A.units + 65 < cLine) (ha : DE X B a ta) (hb : DE X B b tb) (hm : behindInMarks .In b = false := by rfl) : DT X B (.Compare a [.In] [b] pos) (dtv (d2 fIn ta tb)) := ptImp (pt_cmpR ((op_inD hu).or (op_in_seq.or op_in_str)) ha hb (hm)) fun _ _ _ h => lx_in (lift_dtv h)
theorem lx_notin {σ : L2.St} {H : Hp} {Q : VK} (h : lift (cX X B) B.W (d2 fNotIn ta tb) σ H Q) : tOp ((fun x y H Q => rNotInD X.K x y H Q ∨ rIn X.K true x y H Q ∨ ∃ i j, x = .str i ∧ y = .str j ∧ Q (.bl (!(!(Builtin.Str.occurrences j i 0 j.length 1).isEmpty))) H)) (lift (cX X B) B.W ta) (lift (cX X B) B.W tb) σ H Q := by
  refine lift_d2 (fun F H ℓ wa wb u v x y w Q I a1 a2 e1 e2 e3 p => ?_) h
  unfold fNotIn at e3
  obtain ⟨r, e4, e5⟩ := Option.map_eq_some_iff.mp e3
  subst e5
  have q := post_bool I p
  unfold inB at e4
  split at e4
  · split at e4
    · rename_i hs
      cases e4
      rw [Bool.and_eq_true] at hs
      exact .inl ⟨x, _, rp_dp (peek_dp I a1 e1), rp_dp (peek_dp I a2 e2), hs.1, hs.2, q⟩
    · cases e4
  · split at e4
    · rename_i hs
      cases e4
      rw [Bool.and_eq_true] at hs
      obtain ⟨p2, vs, rfl, q2, r2⟩ := peek_tup I a2 e2
      obtain ⟨e6, e7⟩ := all_sc r2 hs.2
      have ex := dp_sc_eq (peek_dp I a1 e1) hs.1
      subst ex
      refine .inr (.inl ⟨p2, vs, rfl, .inr q2, flat_sc hs.1, e7, ?_⟩)
      rw [if_pos rfl, e6, inV_sc hs.1 hs.2]
      exact q
    · cases e4
  · cases e4
    exact .inr (.inr ⟨_, _, dp_str (peek_dp I a1 e1), dp_str (peek_dp I a2 e2), q⟩)
  · cases e4
theorem de_notin (hu : X.A.units + 65 < cLine) (ha : DE X B a ta) (hb : DE X B b tb) (hm : behindInMarks .NotIn b = false := by rfl) : DE X B (.Compare a [.NotIn] [b] pos) (d2 fNotIn ta tb) := peImp (pe_cmpR ((op_notInD hu).or (op_notIn_seq.or op_notin_str)) ha hb (hm)) fun _ _ _ h => lx_notin h
theorem dt_notin (hu : X.A.units + 65 < cLine) (ha : DE X B a ta) (hb : DE X B b tb) (hm : behindInMarks .NotIn b = false := by rfl) : DT X B (.Compare a [.NotIn] [b] pos) (dtv (d2 fNotIn ta tb)) := ptImp (pt_cmpR ((op_notInD hu).or (op_notIn_seq.or op_notin_str)) ha hb (hm)) fun _ _ _ h => lx_notin (lift_dtv h)

/-! ### tests -/
theorem dt_val (h : DE X B e ta) (he : ∀ whole, isTrue e X.env whole = (do let v ← whole; standAt e.pos; holding [v] (truthy v)) := by intro _; rfl) : DT X B e (dtv ta) :=
  ptImp (pt_val h he) fun _ _ _ q => lift_dtv q
end

end DL

/-! DL4: and / or / not, chains, arguments, defs called, what a def promises. -/
namespace DL
open PySem PySem.Spec PyProof.Rows L2

section
variable {c : DC} {F F' H H' F1 H1 : Hp} {σ : L2.St} {ℓ ℓ' ℓ1 : LS} {Wx : WX}
def bindT (t : CT) (f : Bool → CT) : CT := fun ℓ => match t ℓ with
  | none => none
  | some (.ex x ℓ1) => some (.ex x ℓ1)
  | some (.ok b ℓ1) => f b ℓ1
theorem tbind {t : CT} {f : Bool → CT} {Q R : Bool → Hp → Prop} (h : liftT c Wx (bindT t f) σ H Q)
    (k : ∀ F2 H2 ℓ2 b, DI c F2 H2 σ ℓ2 → PostT c F2 σ (f b ℓ2) Q Wx → R b H2) : liftT c Wx t σ H R := by
  obtain ⟨F, ℓ, I, p⟩ := h
  refine ⟨F, ℓ, I, ?_⟩
  unfold bindT at p
  cases e : t ℓ with
  | none => rw [e] at p; exact p
  | some r =>
    rw [e] at p
    cases r with
    | ex x l => exact p
    | ok b l => exact fun F2 H2 I2 s2 => k F2 H2 l b I2 (PostT.mono s2 p)
def dyes (b : Bool) : CT := fun ℓ => some (.ok b ℓ)
def dand (t u : CT) : CT := bindT t fun b => if b then u else dyes false
def dor (t u : CT) : CT := bindT t fun b => if b then dyes true else u
def dnot (t : CT) : CT := bindT t fun b => dyes (!b)
theorem dyes_out {b : Bool} {Q : Bool → Hp → Prop} (I : DI c F H σ ℓ) (p : PostT c F σ (dyes b ℓ) Q Wx) : Q b H := p F H I (Same.refl _)
theorem lift_dand {t u : CT} {Q : Bool → Hp → Prop} (h : liftT c Wx (dand t u) σ H Q) : tAnd (liftT c Wx t) (liftT c Wx u) σ H Q :=
  tbind h fun F2 H2 ℓ2 b I p => by
    cases b with
    | true => exact ⟨F2, ℓ2, I, p⟩
    | false => exact dyes_out I p
theorem lift_dor {t u : CT} {Q : Bool → Hp → Prop} (h : liftT c Wx (dor t u) σ H Q) : tOr (liftT c Wx t) (liftT c Wx u) σ H Q :=
  tbind h fun F2 H2 ℓ2 b I p => by
    cases b with
    | false => exact ⟨F2, ℓ2, I, p⟩
    | true => exact dyes_out I p
theorem lift_dnot {t : CT} {Q : Bool → Hp → Prop} (h : liftT c Wx (dnot t) σ H Q) : tNot (liftT c Wx t) σ H Q :=
  tbind h fun F2 H2 ℓ2 b I p => dyes_out I p
/-- values -/
def dandV (ta tb : CE) : CE := bindE (arg ta) fun w ℓ => match w with
  | .d (.bool true) => tb ℓ
  | .d (.bool false) => some (.ok (.d (.bool false)) ℓ)
  | _ => none
def dorV (ta tb : CE) : CE := bindE (arg ta) fun w ℓ => match w with
  | .d (.bool false) => tb ℓ
  | .d (.bool true) => some (.ok (.d (.bool true)) ℓ)
  | _ => none
def dnotV (ta : CE) : CE := bindE (arg ta) fun w ℓ => match w with
  | .d (.bool b) => some (.ok (.d (.bool !b)) ℓ)
  | _ => none
theorem lift_dandV {ta tb : CE} {Q : VK} (h : lift c Wx (dandV ta tb) σ H Q) : tAndV (lift c Wx ta) (lift c Wx tb) σ H Q := by
  obtain ⟨F, ℓ, I, p⟩ := h
  refine pbind I p fun F2 H2 ℓ2 w v I2 s2 a p2 => ?_
  cases w with
  | d d => cases d with
    | bool b => cases b with
      | true => exact ⟨true, dp_bool a, F2, ℓ2, I2, p2⟩
      | false => exact ⟨false, dp_bool a, post_bool I2 p2⟩
    | _ => exact p2.elim
  | _ => exact p2.elim
theorem lift_dorV {ta tb : CE} {Q : VK} (h : lift c Wx (dorV ta tb) σ H Q) : tOrV (lift c Wx ta) (lift c Wx tb) σ H Q := by
  obtain ⟨F, ℓ, I, p⟩ := h
  refine pbind I p fun F2 H2 ℓ2 w v I2 s2 a p2 => ?_
  cases w with
  | d d => cases d with
    | bool b => cases b with
      | false => exact ⟨false, dp_bool a, F2, ℓ2, I2, p2⟩
      | true => exact ⟨true, dp_bool a, post_bool I2 p2⟩
    | _ => exact p2.elim
  | _ => exact p2.elim
theorem lift_dnotV {ta : CE} {Q : VK} (h : lift c Wx (dnotV ta) σ H Q) : tNotV (lift c Wx ta) σ H Q := by
  obtain ⟨F, ℓ, I, p⟩ := h
  refine pbind I p fun F2 H2 ℓ2 w v I2 s2 a p2 => ?_
  cases w with
  | d d => cases d with
    | bool b => exact ⟨b, dp_bool a, post_bool I2 p2⟩
    | _ => exact p2.elim
  | _ => exact p2.elim
/-- a if t else b -/
def dif (t : CT) (ta tb : CE) : CE := fun ℓ => match t ℓ with
  | none => none
  | some (.ex x ℓ1) => some (.ex x ℓ1)
  | some (.ok b ℓ1) => if b then ta ℓ1 else tb ℓ1
theorem lift_dif {t : CT} {ta tb : CE} {Q : VK} (h : lift c Wx (dif t ta tb) σ H Q) : tIf (liftT c Wx t) (lift c Wx ta) (lift c Wx tb) σ H Q := by
  obtain ⟨F, ℓ, I, p⟩ := h
  refine ⟨F, ℓ, I, ?_⟩
  unfold dif at p
  cases e : t ℓ with
  | none => rw [e] at p; exact p
  | some r =>
    rw [e] at p
    cases r with
    | ex x l => exact p
    | ok b l =>
      intro F2 H2 I2 s2
      cases b with
      | true => exact ⟨F2, l, I2, PostE.mono s2 p⟩
      | false => exact ⟨F2, l, I2, PostE.mono s2 p⟩
/-- a p b p' c, ints -/
def dchain (p p' : Int → Int → Bool) (ta tb tc : CE) : CE := bindE (arg ta) fun wa => bindE (arg tb) fun wb ℓ =>
  match peek ℓ wa, peek ℓ wb with
  | some (.int i), some (.int j) => if p i j then bindE (arg tc) (fun wc ℓ2 => match peek ℓ2 wc with
      | some (.int k) => some (.ok (.d (.bool (p' j k))) ℓ2)
      | _ => none) ℓ
    else some (.ok (.d (.bool false)) ℓ)
  | _, _ => none
theorem lift_dchain {p p' : Int → Int → Bool} {ta tb tc : CE} {Q : VK} (h : lift c Wx (dchain p p' ta tb tc) σ H Q) :
    tChain (rI0 fun i j => .bl (p i j)) (rI0 fun i j => .bl (p' i j)) (lift c Wx ta) (lift c Wx tb) (lift c Wx tc) σ H Q := by
  obtain ⟨F, ℓ, I, p0⟩ := h
  refine pbind I p0 fun F1 H1 ℓ1 wa u I1 s1 a1 p1 => ?_
  refine pbind I1 p1 fun F2 H2 ℓ2 wb v I2 s2 a2 p2 => ?_
  cases e1 : peek ℓ2 wa with
  | none => simp only [e1] at p2; exact p2.elim
  | some x =>
    cases e2 : peek ℓ2 wb with
    | none =>
      simp only [e1, e2] at p2
      cases x <;> exact p2.elim
    | some y =>
      simp only [e1, e2] at p2
      cases x with
      | int i =>
        cases y with
        | int j =>
          refine ⟨i, j, dp_int (peek_dp I2 (a1.mono s2) e1), dp_int (peek_dp I2 a2 e2), _, rfl, ?_⟩
          simp only at p2
          by_cases hp : p i j = true
          · rw [if_pos hp] at p2 ⊢
            refine pbind I2 p2 fun F3 H3 ℓ3 wc w I3 s3 a3 p3 => ?_
            cases e3 : peek ℓ3 wc with
            | none => simp only [e3] at p3; exact p3.elim
            | some z =>
              simp only [e3] at p3
              cases z with
              | int k => exact ⟨j, k, dp_int (peek_dp I2 a2 e2), dp_int (peek_dp I3 a3 e3), post_bool I3 p3⟩
              | _ => exact p3.elim
          · rw [if_neg hp] at p2 ⊢
            exact post_bool I2 p2
        | _ => exact p2.elim
      | _ => exact p2.elim
end
section
variable {X : Cx} {B : Fr0} {a b e : Expr} {ta tb tc : CE} {t u : CT} {pos : Pos} {rest : List Expr}
theorem dw_and1 (ha : DT X B a t) : DW X B (.BoolOp .And [a] pos) t := pw_and1 ha
theorem dw_or1 (ha : DT X B a t) : DW X B (.BoolOp .Or [a] pos) t := pw_or1 ha
theorem dw_and (ha : DT X B a t) (hb : DW X B (.BoolOp .And (b :: rest) pos) u) : DW X B (.BoolOp .And (a :: b :: rest) pos) (dand t u) := pwImp (pw_and ha hb) fun _ _ _ h => lift_dand h
theorem dw_or (ha : DT X B a t) (hb : DW X B (.BoolOp .Or (b :: rest) pos) u) : DW X B (.BoolOp .Or (a :: b :: rest) pos) (dor t u) := pwImp (pw_or ha hb) fun _ _ _ h => lift_dor h
theorem dt_w (h : DW X B e t) : DT X B e t := PW.pt h
theorem dt_not (ha : DT X B a t) : DT X B (.UnaryOp .Not a pos) (dnot t) := ptImp (pt_not ha) fun _ _ _ h => lift_dnot h
theorem de_one {op} (ha : DE X B a ta) : DE X B (.BoolOp op [a] pos) ta := pe_one ha
theorem de_and (ha : DE X B a ta) (hb : DE X B (.BoolOp .And (b :: rest) pos) tb) : DE X B (.BoolOp .And (a :: b :: rest) pos) (dandV ta tb) := peImp (pe_and ha hb) fun _ _ _ h => lift_dandV h
theorem de_or (ha : DE X B a ta) (hb : DE X B (.BoolOp .Or (b :: rest) pos) tb) : DE X B (.BoolOp .Or (a :: b :: rest) pos) (dorV ta tb) := peImp (pe_or ha hb) fun _ _ _ h => lift_dorV h
theorem de_not (ha : DE X B a ta) : DE X B (.UnaryOp .Not a pos) (dnotV ta) := peImp (pe_not ha) fun _ _ _ h => lift_dnotV h
theorem de_if {x : Expr} (ht : DT X B x t) (ha : DE X B a ta) (hb : DE X B b tb) : DE X B (.IfExp x a b pos) (dif t ta tb) := peImp (pe_ifExp ht ha hb) fun _ _ _ h => lift_dif h
def leB (i j : Int) : Bool := decide (i ≤ j)
def ltB (i j : Int) : Bool := decide (i < j)
theorem de_lele {x : Expr} (ha : DE X B a ta) (hb : DE X B b tb) (hc : DE X B x tc) (hm : lastMarks [CmpOp.LtE, CmpOp.LtE] [b, x] = false := by with_unfolding_all rfl) : DE X B (.Compare a [.LtE, .LtE] [b, x] pos) (dchain leB leB ta tb tc) := peImp (pe_chain op_le op_le ha hb hc hm) fun _ _ _ h => lift_dchain h
theorem dt_lele {x : Expr} (ha : DE X B a ta) (hb : DE X B b tb) (hc : DE X B x tc) (hm : lastMarks [CmpOp.LtE, CmpOp.LtE] [b, x] = false := by with_unfolding_all rfl) : DT X B (.Compare a [.LtE, .LtE] [b, x] pos) (dtv (dchain leB leB ta tb tc)) := ptImp (pt_chain op_le op_le ha hb hc hm) fun _ _ _ h => lift_dchain (lift_dtv h)
theorem de_lelt {x : Expr} (ha : DE X B a ta) (hb : DE X B b tb) (hc : DE X B x tc) (hm : lastMarks [CmpOp.LtE, CmpOp.Lt] [b, x] = false := by with_unfolding_all rfl) : DE X B (.Compare a [.LtE, .Lt] [b, x] pos) (dchain leB ltB ta tb tc) := peImp (pe_chain op_le op_lt ha hb hc hm) fun _ _ _ h => lift_dchain h
theorem dt_lelt {x : Expr} (ha : DE X B a ta) (hb : DE X B b tb) (hc : DE X B x tc) (hm : lastMarks [CmpOp.LtE, CmpOp.Lt] [b, x] = false := by with_unfolding_all rfl) : DT X B (.Compare a [.LtE, .Lt] [b, x] pos) (dtv (dchain leB ltB ta tb tc)) := ptImp (pt_chain op_le op_lt ha hb hc hm) fun _ _ _ h => lift_dchain (lift_dtv h)
def fNeg : D → Option W
  | .int i => some (.d (.int (-i)))
  | _ => none
theorem de_neg (ha : DE X B a ta) : DE X B (.UnaryOp .USub a pos) (d1 fNeg ta) := by
  refine peImp (pe_un un_neg ha) fun σ H Q h => lift_d1 (fun F H ℓ wa u x w I a1 e1 e3 p => ?_) h
  unfold fNeg at e3
  split at e3
  · cases e3
    exact ⟨_, dp_int (peek_dp I a1 e1), post_int I p⟩
  · cases e3
end

/-! ### arguments -/
def dnil : CA := fun ℓ => some (.ok [] ℓ)
def dcons (t : CE) (r : CA) : CA := fun ℓ => match arg t ℓ with
  | none => none
  | some (.ex x ℓ1) => some (.ex x ℓ1)
  | some (.ok w ℓ1) => match r ℓ1 with
    | none => none
    | some (.ex x ℓ2) => some (.ex x ℓ2)
    | some (.ok ws ℓ2) => some (.ok (w :: ws) ℓ2)
section
variable {c : DC} {F F' H H' F1 H1 : Hp} {σ : L2.St} {ℓ ℓ' ℓ1 : LS} {Wx : WX}
theorem lift_dnil {Q : List V → Hp → Prop} (h : liftA c Wx dnil σ H Q) : tNil σ H Q := by
  obtain ⟨F, ℓ, I, p⟩ := h
  exact p [] F H I (Same.refl _) trivial
theorem lift_dcons {t : CE} {r : CA} {Q : List V → Hp → Prop} (h : liftA c Wx (dcons t r) σ H Q) : tCons (lift c Wx t) (liftA c Wx r) σ H Q := by
  obtain ⟨F, ℓ, I, p⟩ := h
  refine lift_arg ⟨F, ℓ, I, ?_⟩
  unfold dcons at p
  cases e : arg t ℓ with
  | none => rw [e] at p; exact p
  | some r0 =>
    rw [e] at p
    cases r0 with
    | ex x l => exact p
    | ok w l =>
      intro v F2 H2 I2 s2 wr
      refine ⟨F2, l, I2, ?_⟩
      have wa := wr.wa (arg_nofr e)
      cases e2 : r l with
      | none => simp only [e2] at p; exact p.elim
      | some r1 =>
        simp only [e2] at p
        cases r1 with
        | ex x l2 => exact fun a b G J I3 s3 w3 => p a b G J I3 (s2.trans s3) w3
        | ok ws l2 => exact fun vs G J I3 s3 w3 => p (v :: vs) G J I3 (s2.trans s3) ⟨wa.mono s3, w3⟩
/-- a call of a builtin or of a def: what is read of the arguments -/
def peeks (ℓ : LS) : List W → Option (List D)
  | [] => some []
  | w :: ws => match peek ℓ w with
    | none => none
    | some d => match peeks ℓ ws with
      | none => none
      | some ds => some (d :: ds)
theorem peeks_dp : ∀ {ws : List W} {vs : List V} {ds : List D}, DI c F H σ ℓ → WAs c F σ ws vs → peeks ℓ ws = some ds → RpAll c.K H vs ds
  | [], [], ds, _, _, e => by cases e; exact .nil
  | [], _ :: _, _, _, h, _ => h.elim
  | _ :: _, [], _, _, h, _ => h.elim
  | w :: ws, v :: vs, ds, I, h, e => by
    unfold peeks at e
    cases e1 : peek ℓ w with
    | none => rw [e1] at e; cases e
    | some d =>
      rw [e1] at e
      cases e2 : peeks ℓ ws with
      | none => simp only [e2] at e; cases e
      | some es =>
        simp only [e2] at e
        cases e
        exact .cons (peek_dp I h.1 e1) (peeks_dp I h.2 e2)
def keepWs : List W → LS → Option LS
  | [], ℓ => some ℓ
  | w :: ws, ℓ => match keepW ℓ w with
    | none => none
    | some (_, ℓ1) => keepWs ws ℓ1
theorem peek_set {w w' : W} {d d' : D} {ℓ ℓ1 : LS} (h : keepW ℓ w = some (d, ℓ1)) (e : peek ℓ w' = some d') : peek ℓ1 w' = some d' := by
  cases w with
  | d d0 => cases h; exact e
  | fr ds => cases h; exact e
  | o i =>
    unfold keepW at h
    cases q : ℓ[i]? with
    | none => simp [q] at h
    | some l =>
      cases l with
      | un => simp [q] at h
      | xc => simp [q] at h
      | im d0 => simp [q] at h; obtain ⟨_, rfl⟩ := h; exact e
      | ow ds =>
        simp [q] at h
        obtain ⟨rfl, rfl⟩ := h
        cases w' with
        | d d0 => exact e
        | fr ds => exact e
        | o j =>
          unfold peek at e ⊢
          by_cases hj : j = i
          · subst hj
            have hl : j < ℓ.length := (List.getElem?_eq_some_iff.mp q).1
            simp [q] at e
            simp [hl, e]
          · simp only [List.getElem?_set_ne (Ne.symm hj)]
            exact e
theorem peeks_set {w : W} {d : D} {ℓ ℓ1 : LS} (h : keepW ℓ w = some (d, ℓ1)) : ∀ {ws : List W} {ds : List D}, peeks ℓ ws = some ds → peeks ℓ1 ws = some ds
  | [], _, e => e
  | w' :: ws, ds, e => by
    unfold peeks at e ⊢
    cases e1 : peek ℓ w' with
    | none => rw [e1] at e; cases e
    | some d' =>
      rw [e1] at e
      rw [peek_set h e1]
      cases e2 : peeks ℓ ws with
      | none => simp only [e2] at e; cases e
      | some es =>
        simp only [e2] at e
        rw [peeks_set h e2]
        exact e
theorem keep_peek {w : W} {d d' : D} {ℓ ℓ1 : LS} (h : keepW ℓ w = some (d, ℓ1)) (e : peek ℓ w = some d') : d = d' := by
  cases w with
  | d d0 => cases h; cases e; rfl
  | fr ds => cases h; cases e; rfl
  | o i =>
    unfold keepW at h
    unfold peek at e
    cases q : ℓ[i]? with
    | none => simp [q] at h
    | some l =>
      cases l with
      | un => simp [q] at h
      | xc => simp [q] at h
      | im d0 => simp [q] at h e; rw [← h.1, ← e]
      | ow ds => simp [q] at h e; rw [← h.1, ← e]
/-- all arguments are kept: they are data -/
theorem keeps_dp : ∀ {ws : List W} {vs : List V} {ds : List D} {F : Hp} {ℓ ℓ' : LS}, DI c F H σ ℓ → WAs c F σ ws vs → peeks ℓ ws = some ds → keepWs ws ℓ = some ℓ' → ∃ F', DI c F' H σ ℓ' ∧ Same F F' ∧ RpAll c.K F' vs ds
  | [], [], ds, F, ℓ, ℓ', I, _, e, k => by cases e; cases k; exact ⟨F, I, Same.refl _, .nil⟩
  | [], _ :: _, _, _, _, _, _, h, _, _ => h.elim
  | _ :: _, [], _, _, _, _, _, h, _, _ => h.elim
  | w :: ws, v :: vs, ds, F, ℓ, ℓ', I, h, e, k => by
    unfold peeks at e
    cases e1 : peek ℓ w with
    | none => rw [e1] at e; cases e
    | some d =>
      rw [e1] at e
      cases e2 : peeks ℓ ws with
      | none => simp only [e2] at e; cases e
      | some es =>
        simp only [e2] at e
        cases e
        unfold keepWs at k
        cases e3 : keepW ℓ w with
        | none => rw [e3] at k; cases k
        | some dl =>
          obtain ⟨d0, ℓ1⟩ := dl
          rw [e3] at k
          obtain rfl := keep_peek e3 e1
          obtain ⟨F1, I1, s1, r1⟩ := keep_dp I h.1 e3
          obtain ⟨F2, I2, s2, r2⟩ := keeps_dp I1 (h.2.mono s1) (peeks_set e3 e2) k
          exact ⟨F2, I2, s1.trans s2, .cons (dp_mono s2 r1) r2⟩
end
section
variable {X : Cx} {B : Fr0} {e : Expr} {es : List Expr} {t : CE} {r : CA}
theorem da_nil : DA X B [] dnil := paImp pa_nil fun _ _ _ h => lift_dnil h
theorem da_cons (ha : DE X B e t) (hr : DA X B es r) (hs : starEach (e :: es) X.env = (false, eval e X.env) :: starEach es X.env := by rfl) : DA X B (e :: es) (dcons t r) :=
  paImp (pa_cons ha hr hs) fun _ _ _ h => lift_dcons h
end
end DL

/-! DL5: what a def promises; its call; statements. -/
namespace DL
open PySem PySem.Spec PyProof.Rows L2

/-- the promise of a def that computes m -/
structure Grow (F H F' H' : Hp) : Prop where
  ff : Same F F'
  fh : Same F' H'
  hh : Same H H'
  nw : ∀ a o, F' a = some o → F a = some o ∨ H a = none
def PostD (K : PySem.W.Frag) (mg : Str → Option Value) (F H : Hp) (Q : VK) (E : XK) : Option Rt → Prop
  | none => False
  | some (.d d) => ∀ v F' H', Grow F H F' H' → Rp K F' v d → Q v H'
  | some (.fr es) => ∀ a us F' H', Grow F H F' H' → F' a = none → H a = none → H' a = some (.lst us) → RpAll K F' us es → Q (.ref a) H'
  | some (.ex x) => ∀ cls dd F' H', Grow F H F' H' → XR ⟨K, mg, F, H, none⟩ F' H' x cls dd → E cls dd H'
def spD (K : PySem.W.Frag) (mg : Str → Option Value) (n : Nat) (m : List D → Option Rt) : Sp := fun vs H Q E => vs.length = n ∧ ∃ F ds, Same F H ∧ RpAll K F vs ds ∧ PostD K mg F H Q E (m ds)

/-- the def's own answer -/
def fin (r : Option (Fl × LS)) : Option Rt := match r with
  | some (.nx, _) => some (.d .none)
  | some (.rt (.d d), _) => some (.d d)
  | some (.rt (.o i), ℓ) => (match ℓ[i]? with
    | some (.ow ds) => some (.fr ds)
    | some (.im d) => some (.d d)
    | _ => none)
  | some (.rt (.fr ds), _) => some (.fr ds)
  | some (.ex x, _) => some (.ex x)
  | _ => none
def ini (n : Nat) (ds : List D) : LS := ds.map L.im ++ List.replicate (n - ds.length) L.un
def runD (n : Nat) (t : CS) (ds : List D) : Option Rt := fin (t (ini n ds))

theorem start_get {N : List Str} {vs : List V} {i : Nat} {v : V} (h : vs[i]? = some v) : (L2.start N vs)[i]? = some (some v) := by
  have hi : i < vs.length := (List.getElem?_eq_some_iff.mp h).1
  unfold L2.start
  rw [List.getElem?_append_left (by simpa using hi), List.getElem?_map, h]
  rfl
theorem ini_get {n : Nat} {ds : List D} {i : Nat} {l : L} (h : (ini n ds)[i]? = some l) : (∃ d, ds[i]? = some d ∧ l = .im d) ∨ l = .un := by
  unfold ini at h
  by_cases hi : i < ds.length
  · rw [List.getElem?_append_left (by simpa using hi), List.getElem?_map] at h
    cases e : ds[i]? with
    | none => rw [e] at h; cases h
    | some d => rw [e] at h; cases h; exact .inl ⟨d, rfl, rfl⟩
  · rw [List.getElem?_append_right (by simpa using hi), List.getElem?_replicate] at h
    split at h
    · cases h; exact .inr rfl
    · cases h
theorem di_start {K : PySem.W.Frag} {mg : Str → Option Value} {F H : Hp} {N : List Str} {vs : List V} {ds : List D} (hs : Same F H) (hr : RpAll K F vs ds) (hn : vs.length ≤ N.length) : DI ⟨K, mg, F, H, none⟩ F H (L2.start N vs) (ini N.length ds) where
  sub := hs
  ent := Same.refl H
  old := fun _ _ h => .inl h
  ge := Same.refl F
  len := by
    unfold ini L2.start
    have := dpAll_len hr
    simp only [List.length_append, List.length_map, List.length_replicate]
    omega
  im := fun i d h => by
    rcases ini_get h with ⟨d', e1, e2⟩ | e
    · cases e2
      obtain ⟨v, h1, h2⟩ := dpAll_get hr e1
      exact ⟨v, start_get h1, h2⟩
    · cases e
  ow := fun i es h => by
    rcases ini_get h with ⟨d', e1, e2⟩ | e
    · cases e2
    · cases e
  dis := fun i j a es fs h => by
    rcases ini_get h with ⟨d', e1, e2⟩ | e
    · cases e2
    · cases e
  xs := fun i h => by
    rcases ini_get h with ⟨d', e1, e2⟩ | e
    · cases e2
    · cases e
  xr := fun q e => by cases e
theorem DI.grow {K : PySem.W.Frag} {mg : Str → Option Value} {F H F' H' : Hp} {σ : L2.St} {ℓ : LS} (I : DI ⟨K, mg, F, H, none⟩ F' H' σ ℓ) : Grow F H F' H' := ⟨I.ge, I.sub, I.ent, I.old⟩
/-- the end of a def's body -/
theorem post_fin {K : PySem.W.Frag} {mg : Str → Option Value} {F H : Hp} {Q : VK} {E : XK} {r : Option (Fl × LS)} (h : PostD K mg F H Q E (fin r)) :
    PostS ⟨K, mg, F, H, none⟩ F r { nx := fun _ H' => Q .non H', rt := Q } (fun cls d _ H => E cls d H) := by
  cases r with
  | none => exact h
  | some r =>
    obtain ⟨f, l⟩ := r
    cases f with
    | nx => exact fun σ' F' H' I s => h _ F' H' I.grow .non
    | bk => exact h.elim
    | ct => exact h.elim
    | rt w =>
      cases w with
      | d d => exact fun v σ' F' H' I s wr => h v F' H' I.grow wr
      | fr ds =>
        rintro v σ' F' H' I s ⟨a, vs, rfl, hF, h0, hH, hd, hn⟩
        exact h a vs F' H' I.grow hF h0 hH hd
      | o i =>
        rintro v σ' F' H' I s ⟨hv, ds, hl⟩
        obtain ⟨a, vs, h1, h2, h3, h4, h5⟩ := I.ow i ds hl
        rw [hv] at h1; cases h1
        simp only [fin, hl] at h
        exact h a vs F' H' I.grow h2 h3 h4 h5
    | ex x => exact fun cls dd σ' F' H' I s xr => h cls dd F' H' I.grow xr
section
variable {P : Program} {w : World} {K : PySem.W.Frag} {mg : Str → Option Value} {base : Heap}
/-- THE RULE for a def, one that raises where an exception may be handled (hot) -/
theorem fnD {x qual : Str} {st : Stmt} {f : Addr} {fd : FuncData} {N ps : List Str} {k : Nat} {t : CS} (F : L2.Fun K x qual st f fd) (S : FnScope N ps (defScope st)) (hps : ps.length ≤ N.length)
    (hbody : ∀ (cdv : Value) (A : Around) (outer : List Env) (s : Shared) (H : Hp) (E : XK) (F0 : Hp), Room k (A.deeper (envOfC qual (defScope st) s.heap.objs.size f cdv)) →
      DSs (cxOf (L2.CX P w) P w K mg base N qual (defScope st) f cdv A outer s H E) ⟨F0, H, fun cls d _ H' => E cls d H', none⟩ (defBody st) t) :
    FnOk P w K mg base (L2.CX P w) (k + 1) f fd ps (spD K mg ps.length (runD N.length t)) := by
  refine F.okX S (fun vs H Q E h => h.1) fun cdv A outer s H vs Q E hr ⟨hl, F0, ds, hs, hd, hp⟩ => ⟨_, hbody cdv A outer s H E F0 hr, F0, ini N.length ds, di_start hs hd (by omega), ?_⟩
  exact post_fin hp
/-- .. one that raises only where nothing is handled (cold) -/
theorem fnDN {x qual : Str} {st : Stmt} {f : Addr} {fd : FuncData} {N ps : List Str} {k : Nat} {t : CS} (F : L2.Fun K x qual st f fd) (S : FnScope N ps (defScope st)) (hps : ps.length ≤ N.length)
    (hbody : ∀ (cdv : Value) (A : Around) (outer : List Env) (s : Shared) (H : Hp) (E : XK) (F0 : Hp), Room k (A.deeper (envOfC qual (defScope st) s.heap.objs.size f cdv)) →
      DSs (cxOf (L2N.CX P w) P w K mg base N qual (defScope st) f cdv A outer s H E) ⟨F0, H, fun cls d _ H' => E cls d H', none⟩ (defBody st) t) :
    FnOk P w K mg base (L2N.CX P w) (k + 1) f fd ps (spD K mg ps.length (runD N.length t)) := by
  obtain ⟨oc, od, kV, doc, pm, an, cdv, ct, osl, rfl, lk, hcd⟩ := F.ex
  refine fn_of lk hcd S (fun vs H Q E h => h.1) fun A outer s H vs Q E hr ⟨hl, F0, ds, hs, hd, hp⟩ => ⟨_, hbody cdv A outer s H E F0 hr, F0, ini N.length ds, di_start hs hd (by omega), ?_⟩
  exact post_fin hp
end

/-! ### the call of a def -/
def dcall (m : List D → Option Rt) (args : CA) : CE := fun ℓ => match args ℓ with
  | none => none
  | some (.ex x ℓ1) => some (.ex x ℓ1)
  | some (.ok ws ℓ1) => match peeks ℓ1 ws with
    | none => none
    | some ds => match m ds with
      | none => none
      | some (.d d) => if isSc d then some (.ok (.d d) ℓ1) else (match keepWs ws ℓ1 with
        | none => none
        | some ℓ2 => some (.ok (.d d) ℓ2))
      | some (.fr es) => (match keepWs ws ℓ1 with
        | none => none
        | some ℓ2 => some (.ok (.fr es) ℓ2))
      | some (.ex x) => (match keepWs ws ℓ1 with
        | none => none
        | some ℓ2 => some (.ex x ℓ2))
section
variable {c : DC} {F F' H H' F1 H1 : Hp} {σ : L2.St} {ℓ ℓ' ℓ1 : LS} {Wx : WX}
/-- behind a call that hands back no object -/
theorem DI.after (I : DI c F H σ ℓ) (s : Same H H') : DI c F H' σ ℓ where
  sub := I.sub.trans s
  ent := I.ent.trans s
  old := I.old
  ge := I.ge
  len := I.len
  im := I.im
  ow := fun i ds e => by
    obtain ⟨a, vs, h1, h2, h3, h4, h5⟩ := I.ow i ds e
    exact ⟨a, vs, h1, h2, h3, s _ _ h4, h5⟩
  dis := I.dis
  xs := I.xs
  xr := fun q e => (I.xr q e).mono (Same.refl _) fun _ _ z => s _ _ z
/-- behind a call whose arguments are data -/
theorem DI.called (I : DI c F H σ ℓ) (g : Grow F H F' H') : DI c F' H' σ ℓ where
  sub := g.fh
  ent := I.ent.trans g.hh
  old := fun a o e => by
    rcases g.nw a o e with h | h
    · exact I.old a o h
    · exact .inr (I.ent.free h)
  ge := I.ge.trans g.ff
  len := I.len
  im := fun i d e => by
    obtain ⟨v, h1, h2⟩ := I.im i d e
    exact ⟨v, h1, dp_mono g.ff h2⟩
  ow := fun i ds e => by
    obtain ⟨a, vs, h1, h2, h3, h4, h5⟩ := I.ow i ds e
    refine ⟨a, vs, h1, ?_, h3, g.hh _ _ h4, dpAll_mono g.ff h5⟩
    cases q : F' a with
    | none => rfl
    | some o =>
      rcases g.nw a o q with h | h
      · rw [h2] at h; cases h
      · rw [h4] at h; cases h
  dis := I.dis
  xs := I.xs
  xr := fun q e => (I.xr q e).mono g.ff fun _ _ z => g.hh _ _ z
theorem lift_dcall {m : List D → Option Rt} {args : CA} {n : Nat} {Q : VK} (hn : ∀ ℓ ws ℓ1, args ℓ = some (.ok ws ℓ1) → ws.length = n) (h : lift c Wx (dcall m args) σ H Q) : tCallS (spD c.K c.mg n m) (WE Wx) (liftA c Wx args) σ H Q := by
  obtain ⟨F, ℓ, I, p⟩ := h
  refine ⟨F, ℓ, I, ?_⟩
  unfold dcall at p
  cases e : args ℓ with
  | none => rw [e] at p; exact p
  | some r =>
    rw [e] at p
    cases r with
    | ex x l => exact p
    | ok ws l =>
      intro vs F1 H1 I1 s1 wa
      have hlen : vs.length = n := by
        have : ∀ {ws : List W} {vs : List V}, WAs c F1 σ ws vs → vs.length = ws.length := by
          intro ws
          induction ws with
          | nil => intro vs h; cases vs with
            | nil => rfl
            | cons _ _ => exact h.elim
          | cons w ws ih => intro vs h; cases vs with
            | nil => exact h.elim
            | cons v vs => simp [ih h.2]
        rw [this wa]; exact hn ℓ ws l e
      refine ⟨hlen, ?_⟩
      cases e1 : peeks l ws with
      | none => simp only [e1] at p; exact p.elim
      | some ds =>
        simp only [e1] at p
        cases e2 : m ds with
        | none => simp only [e2] at p; exact p.elim
        | some r2 =>
          simp only [e2] at p
          cases r2 with
          | d d =>
            by_cases hd : isSc d = true
            · simp only [hd, if_true] at p
              refine ⟨H1, ds, Same.refl _, peeks_dp I1 wa e1, ?_⟩
              rw [e2]
              intro v F2 H2 g r
              exact p v F1 H2 (I1.after g.hh) s1 (dp_sc_any r hd)
            · simp only [hd, if_false] at p
              cases e3 : keepWs ws l with
              | none => simp [e3] at p; exact p.elim
              | some l2 =>
                simp [e3] at p
                obtain ⟨F3, I3, s3, r3⟩ := keeps_dp I1 wa e1 e3
                refine ⟨F3, ds, I3.sub, r3, ?_⟩
                rw [e2]
                intro v F2 H2 g r
                exact p v F2 H2 (I3.called g) ((s1.trans s3).trans g.ff) r
          | fr es =>
            cases e3 : keepWs ws l with
            | none => simp [e3] at p; exact p.elim
            | some l2 =>
              simp [e3] at p
              obtain ⟨F3, I3, s3, r3⟩ := keeps_dp I1 wa e1 e3
              refine ⟨F3, ds, I3.sub, r3, ?_⟩
              rw [e2]
              intro a us F2 H2 g hF hH hl r
              refine p (.ref a) F2 H2 (I3.called g) ((s1.trans s3).trans g.ff) ⟨a, us, rfl, hF, I3.ent.free hH, hl, r, fun i es2 q z => ?_⟩
              obtain ⟨b, vs2, g1, g2, g3, g4, g5⟩ := I3.ow i es2 q
              rw [z] at g1; cases g1
              rw [hH] at g4; cases g4
          | ex x =>
            cases e3 : keepWs ws l with
            | none => simp [e3] at p; exact p.elim
            | some l2 =>
              simp [e3] at p
              obtain ⟨F3, I3, s3, r3⟩ := keeps_dp I1 wa e1 e3
              refine ⟨F3, ds, I3.sub, r3, ?_⟩
              rw [e2]
              intro cls dd F2 H2 g r
              exact p cls dd F2 H2 (I3.called g) ((s1.trans s3).trans g.ff) r
/-- how many arguments -/
inductive NA : CA → Nat → Prop
  | nil : NA dnil 0
  | cons {t r n} : NA r n → NA (dcons t r) (n + 1)
theorem NA.len : ∀ {t : CA} {n : Nat}, NA t n → ∀ ℓ ws ℓ1, t ℓ = some (.ok ws ℓ1) → ws.length = n := by
  intro t n h
  induction h with
  | nil => intro ℓ ws ℓ1 e; cases e; rfl
  | @cons t r n _ ih =>
    intro ℓ ws ℓ1 e
    unfold dcons at e
    cases q : arg t ℓ with
    | none => rw [q] at e; cases e
    | some r0 =>
      rw [q] at e
      cases r0 with
      | ex x l => cases e
      | ok w l =>
        simp only at e
        cases q2 : r l with
        | none => rw [q2] at e; cases e
        | some r1 =>
          rw [q2] at e
          cases r1 with
          | ex x l2 => cases e
          | ok ws2 l2 =>
            cases e
            simp [ih l ws2 _ q2]
end
/-- what is taken of what a call lets out -/
theorem takesN_of {X : Cx} {W : WX} (tk : L2.Takes X W) : L2N.Takes X W := fun u s' ⟨a, B, sI, pins, σ, H, cls, d, e, I, nb, up, sky, na, os, ag, w⟩ =>
  tk u s' ⟨a, B, sI, pins, σ, H, cls, d, e, I, nb, up, by
    rcases sky with ⟨h1, h2, h3, oe, vs, h4, h5, h6, h7⟩ | fl | hd
    · exact .inl ⟨h1, h2, h3, oe, vs, h4, h5.zc, h6, h7⟩
    · exact .inr (.inl (L2H.flyingZ_imp (fun o z => z.zc) fl))
    · exact .inr (.inr ⟨hd.1, hd.2.1, hd.2.2.1, L2H.tracedZ_imp (fun o z => z.zc) hd.2.2.2⟩), na, os, ag, w⟩
section
variable {X : Cx} {B : Fr0} {e : Expr} {es : List Expr} {CX : CXT} {k f : Nat} {fd : FuncData} {ps : List Str} {m : List D → Option Rt} {t : CA} {x : Str} {p pos : Pos}
theorem de_call {f : Addr} (G : FnOk X.prog X.w X.K X.mg X.base CX k f fd ps (spD X.K X.mg ps.length m)) (hr : Room k X.A) (hx : ∀ σ, PassesAt CX X σ (WE B.W σ)) (hg : Gl X x) (hm : X.mg x = some (.ref f)) (hk : PySem.W.keepIn X.K (.ref f) = true) (hb : Binds X.K fd ps [])
    (ha : DA X B (e :: es) t) (hn : NA t ps.length) (hdb : (x == ("__debug__" : Str)) = false := by decide) (he : starEach (e :: es) X.env = (false, eval e X.env) :: starEach es X.env := by rfl) (hpl : (backTo pos (starEach es X.env)).any (·.1) = false := by rfl) :
    DE X B (.Call (.Name x p) (e :: es) [] pos) (dcall m t) := peImp (pe_callS G hr hg hm hk hb hx ha hdb he hpl) fun σ H Q h => lift_dcall hn.len h
end
end DL

/-! DL6: statements. -/
namespace DL
open PySem PySem.Spec PyProof.Rows L2

section
variable {c : DC} {F F' H H' F1 H1 : Hp} {σ : L2.St} {ℓ ℓ' ℓ1 : LS} {Wx : WX}
def dskip : CS := fun ℓ => some (.nx, ℓ)
def dseq (t u : CS) : CS := fun ℓ => match t ℓ with
  | some (.nx, ℓ1) => u ℓ1
  | r => r
theorem lift_dseq {t u : CS} {D : Ends} (h : liftS c Wx (dseq t u) D σ H) : tSeq (liftS c Wx t) (liftS c Wx u) D σ H := by
  obtain ⟨F, ℓ, I, p⟩ := h
  refine ⟨F, ℓ, I, ?_⟩
  unfold dseq at p
  cases e : t ℓ with
  | none => rw [e] at p; exact p
  | some r =>
    rw [e] at p
    obtain ⟨f, l⟩ := r
    cases f with
    | nx => exact fun σ' F' H' I' s' => ⟨F', l, I', PostS.mono s' p⟩
    | bk => exact p
    | ct => exact p
    | rt w => exact p
    | ex x => exact p
theorem lift_dskip {D : Ends} (h : liftS c Wx dskip D σ H) : tNext D σ H := by
  obtain ⟨F, ℓ, I, p⟩ := h
  exact p σ F H I (Same.refl _)
def dret (t : CE) : CS := fun ℓ => match t ℓ with
  | none => none
  | some (.ex x ℓ1) => some (.ex x, ℓ1)
  | some (.ok w ℓ1) => some (.rt w, ℓ1)
theorem lift_dret {t : CE} {D : Ends} (h : liftS c Wx (dret t) D σ H) : tRet (lift c Wx t) D σ H := by
  obtain ⟨F, ℓ, I, p⟩ := h
  refine ⟨F, ℓ, I, ?_⟩
  unfold dret at p
  cases e : t ℓ with
  | none => rw [e] at p; exact p
  | some r =>
    rw [e] at p
    cases r with
    | ok w l => exact fun v F' H' I' s' wr => p v σ F' H' I' s' wr
    | ex x l => exact fun cls dd F' H' I' s' xr => p cls dd σ F' H' I' s' xr
def dretN : CS := fun ℓ => some (.rt (.d .none), ℓ)
theorem lift_dretN {D : Ends} (h : liftS c Wx dretN D σ H) : tRetN D σ H := by
  obtain ⟨F, ℓ, I, p⟩ := h
  exact p .non σ F H I (Same.refl _) .non
def ddrop (t : CE) : CS := fun ℓ => match t ℓ with
  | none => none
  | some (.ex x ℓ1) => some (.ex x, ℓ1)
  | some (.ok w ℓ1) => some (.nx, ℓ1)
theorem lift_ddrop {t : CE} {D : Ends} (h : liftS c Wx (ddrop t) D σ H) : tDrop (lift c Wx t) D σ H := by
  obtain ⟨F, ℓ, I, p⟩ := h
  refine ⟨F, ℓ, I, ?_⟩
  unfold ddrop at p
  cases e : t ℓ with
  | none => rw [e] at p; exact p
  | some r =>
    rw [e] at p
    cases r with
    | ok w l => exact fun v F' H' I' s' wr => p σ F' H' I' s'
    | ex x l => exact fun cls dd F' H' I' s' xr => p cls dd σ F' H' I' s' xr
def dife (c : CT) (t u : CS) : CS := fun ℓ => match c ℓ with
  | none => none
  | some (.ex x ℓ1) => some (.ex x, ℓ1)
  | some (.ok b ℓ1) => if b then t ℓ1 else u ℓ1
theorem lift_dife {q : CT} {t u : CS} {D : Ends} (h : liftS c Wx (dife q t u) D σ H) : tIfS (liftT c Wx q) (liftS c Wx t) (liftS c Wx u) D σ H := by
  obtain ⟨F, ℓ, I, p⟩ := h
  refine ⟨F, ℓ, I, ?_⟩
  unfold dife at p
  cases e : q ℓ with
  | none => rw [e] at p; exact p
  | some r =>
    rw [e] at p
    cases r with
    | ok b l =>
      intro F' H' I' s'
      cases b with
      | true => exact ⟨F', l, I', PostS.mono s' p⟩
      | false => exact ⟨F', l, I', PostS.mono s' p⟩
    | ex x l => exact fun cls dd F' H' I' s' xr => p cls dd σ F' H' I' s' xr

/-! ### slots set -/
theorem DI.setIm {i : Nat} {d : D} {v : V} (I : DI c F H σ ℓ) (h : Rp c.K F v d) : DI c F H (σ.set i (some v)) (ℓ.set i (.im d)) where
  sub := I.sub
  ent := I.ent
  old := I.old
  ge := I.ge
  len := by rw [List.length_set, List.length_set]; exact I.len
  im := fun j e q => by
    by_cases hj : j = i
    · subst hj
      have hl : j < ℓ.length := by have := (List.getElem?_eq_some_iff.mp q).1; simpa using this
      rw [List.getElem?_set_self hl] at q; cases q
      exact ⟨v, List.getElem?_set_self (by rw [← I.len]; exact hl), h⟩
    · rw [List.getElem?_set_ne (Ne.symm hj)] at q
      rw [List.getElem?_set_ne (Ne.symm hj)]
      exact I.im j e q
  ow := fun j es q => by
    by_cases hj : j = i
    · subst hj
      have hl : j < ℓ.length := by have := (List.getElem?_eq_some_iff.mp q).1; simpa using this
      rw [List.getElem?_set_self hl] at q; cases q
    · rw [List.getElem?_set_ne (Ne.symm hj)] at q
      rw [List.getElem?_set_ne (Ne.symm hj)]
      exact I.ow j es q
  dis := fun j k a es fs q1 q2 z1 z2 => by
    have ne : ∀ (m : Nat) (es : List D), (ℓ.set i (.im d))[m]? = some (.ow es) → m ≠ i ∧ ℓ[m]? = some (.ow es) := fun m es q => by
      by_cases hm : m = i
      · subst hm
        have hl : m < ℓ.length := by have := (List.getElem?_eq_some_iff.mp q).1; simpa using this
        rw [List.getElem?_set_self hl] at q; cases q
      · rw [List.getElem?_set_ne (Ne.symm hm)] at q; exact ⟨hm, q⟩
    obtain ⟨n1, e1⟩ := ne j es q1
    obtain ⟨n2, e2⟩ := ne k fs q2
    rw [List.getElem?_set_ne (Ne.symm n1)] at z1
    rw [List.getElem?_set_ne (Ne.symm n2)] at z2
    exact I.dis j k a es fs e1 e2 z1 z2
  xs := fun j q => by
    by_cases hj : j = i
    · subst hj
      have hl : j < ℓ.length := by have := (List.getElem?_eq_some_iff.mp q).1; simpa using this
      rw [List.getElem?_set_self hl] at q; cases q
    · rw [List.getElem?_set_ne (Ne.symm hj)] at q
      rw [List.getElem?_set_ne (Ne.symm hj)]
      exact I.xs j q
  xr := I.xr
/-- a list that nobody else holds goes to slot i -/
theorem DI.setOw {i : Nat} {a : Addr} {vs : List V} {ds : List D} (I : DI c F H σ ℓ) (hF : F a = none) (h0 : c.H0 a = none) (hH : H a = some (.lst vs)) (hd : RpAll c.K F vs ds)
    (hn : ∀ (j : Nat) (es : List D), ℓ[j]? = some (.ow es) → j ≠ i → σ[j]? ≠ some (some (.ref a))) : DI c F H (σ.set i (some (.ref a))) (ℓ.set i (.ow ds)) where
  sub := I.sub
  ent := I.ent
  old := I.old
  ge := I.ge
  len := by rw [List.length_set, List.length_set]; exact I.len
  im := fun j e q => by
    by_cases hj : j = i
    · subst hj
      have hl : j < ℓ.length := by have := (List.getElem?_eq_some_iff.mp q).1; simpa using this
      rw [List.getElem?_set_self hl] at q; cases q
    · rw [List.getElem?_set_ne (Ne.symm hj)] at q
      rw [List.getElem?_set_ne (Ne.symm hj)]
      exact I.im j e q
  ow := fun j es q => by
    by_cases hj : j = i
    · subst hj
      have hl : j < ℓ.length := by have := (List.getElem?_eq_some_iff.mp q).1; simpa using this
      rw [List.getElem?_set_self hl] at q; cases q
      exact ⟨a, vs, List.getElem?_set_self (by rw [← I.len]; exact hl), hF, h0, hH, hd⟩
    · rw [List.getElem?_set_ne (Ne.symm hj)] at q
      rw [List.getElem?_set_ne (Ne.symm hj)]
      exact I.ow j es q
  dis := fun j k b es fs q1 q2 z1 z2 => by
    have ne : ∀ (m : Nat) (es : List D), (ℓ.set i (.ow ds))[m]? = some (.ow es) → m = i ∨ (m ≠ i ∧ ℓ[m]? = some (.ow es)) := fun m es q => by
      by_cases hm : m = i
      · exact .inl hm
      · rw [List.getElem?_set_ne (Ne.symm hm)] at q; exact .inr ⟨hm, q⟩
    have at_ : ∀ (m : Nat), m = i → ∀ b, (σ.set i (some (V.ref a)))[m]? = some (some (.ref b)) → b = a := fun m hm b z => by
      subst hm
      have hl : m < σ.length := by have := (List.getElem?_eq_some_iff.mp z).1; simpa using this
      rw [List.getElem?_set_self hl] at z; cases z; rfl
    rcases ne j es q1 with h1 | ⟨n1, e1⟩ <;> rcases ne k fs q2 with h2 | ⟨n2, e2⟩
    · rw [h1, h2]
    · rw [List.getElem?_set_ne (Ne.symm n2)] at z2
      obtain rfl := at_ j h1 b z1
      exact absurd z2 (hn k fs e2 n2)
    · rw [List.getElem?_set_ne (Ne.symm n1)] at z1
      obtain rfl := at_ k h2 b z2
      exact absurd z1 (hn j es e1 n1)
    · rw [List.getElem?_set_ne (Ne.symm n1)] at z1
      rw [List.getElem?_set_ne (Ne.symm n2)] at z2
      exact I.dis j k b es fs e1 e2 z1 z2
  xs := fun j q => by
    by_cases hj : j = i
    · subst hj
      have hl : j < ℓ.length := by have := (List.getElem?_eq_some_iff.mp q).1; simpa using this
      rw [List.getElem?_set_self hl] at q; cases q
    · rw [List.getElem?_set_ne (Ne.symm hj)] at q
      rw [List.getElem?_set_ne (Ne.symm hj)]
      exact I.xs j q
  xr := I.xr
def putW (i : Nat) (w : W) (ℓ : LS) : Option LS := match w with
  | .d d => some (ℓ.set i (.im d))
  | .fr ds => some (ℓ.set i (.ow ds))
  | .o j => match keepW ℓ (.o j) with
    | none => none
    | some (d, ℓ1) => some (ℓ1.set i (.im d))
theorem put_ok {i : Nat} {w : W} {v : V} (I : DI c F H σ ℓ) (wr : WR c F H σ ℓ w v) (e : putW i w ℓ = some ℓ1) : ∃ F', DI c F' H (σ.set i (some v)) ℓ1 ∧ Same F F' := by
  cases w with
  | d d => cases e; exact ⟨F, I.setIm wr, Same.refl _⟩
  | fr ds =>
    cases e
    obtain ⟨a, vs, rfl, hF, h0, hH, hd, hn⟩ := wr
    exact ⟨F, I.setOw hF h0 hH hd fun j es q _ => hn j es q, Same.refl _⟩
  | o j =>
    cases q : keepW ℓ (.o j) with
    | none => simp only [putW, q] at e; cases e
    | some dl =>
      obtain ⟨d, l⟩ := dl
      simp only [putW, q] at e
      cases e
      obtain ⟨F1, I1, s1, r1⟩ := keep_dp I (show WA c F σ (.o j) v from wr.1) q
      exact ⟨F1, I1.setIm r1, s1⟩
def dset (i : Nat) (t : CE) : CS := fun ℓ => match t ℓ with
  | none => none
  | some (.ex x ℓ1) => some (.ex x, ℓ1)
  | some (.ok w ℓ1) => match putW i w ℓ1 with
    | none => none
    | some ℓ2 => some (.nx, ℓ2)
theorem lift_dset {i : Nat} {t : CE} {D : Ends} (h : liftS c Wx (dset i t) D σ H) : tAsg (lift c Wx t) (gName i) D σ H := by
  obtain ⟨F, ℓ, I, p⟩ := h
  refine ⟨F, ℓ, I, ?_⟩
  unfold dset at p
  cases e : t ℓ with
  | none => rw [e] at p; exact p
  | some r =>
    rw [e] at p
    cases r with
    | ex x l => exact fun cls dd F' H' I' s' xr => p cls dd σ F' H' I' s' xr
    | ok w l =>
      intro v F' H' I' s' wr
      cases q : putW i w l with
      | none => simp only [q] at p; exact p.elim
      | some l2 =>
        simp only [q] at p
        obtain ⟨F2, I2, s2⟩ := put_ok I' wr q
        exact p _ F2 H' I2 (s'.trans s2)
end
section
variable {X : Cx} {B : Fr0} {a b e : Expr} {t : CE} {u v : CS} {q : CT} {pos : Pos} {s : Stmt} {rest : List Stmt}
theorem dss_nil : DSs X B [] dskip := pssImp pss_nil fun _ _ _ h => lift_dskip h
theorem dss_cons (h1 : DS X B s u) (h2 : DSs X B rest v) : DSs X B (s :: rest) (dseq u v) := pssImp (pss_cons h1 h2) fun _ _ _ h => lift_dseq h
theorem dss_one (h1 : DS X B s u) : DSs X B [s] u := pss_one h1
theorem ds_pass : DS X B (.Pass pos) dskip := psImp ps_pass fun _ _ _ h => lift_dskip h
theorem ds_ret (h : DE X B e t) : DS X B (.Return (some e) pos) (dret t) := psImp (ps_ret h) fun _ _ _ q => lift_dret q
theorem ds_retN : DS X B (.Return none pos) dretN := psImp ps_retN fun _ _ _ q => lift_dretN q
theorem ds_expr (h : DE X B e t) (hs : swapsWith e none pos.line X.env = pure false := by rfl) : DS X B (.Expr e pos) (ddrop t) := psImp (ps_expr h hs) fun _ _ _ q => lift_ddrop q
theorem ds_if {x : Expr} {p r : List Stmt} (hc : DT X B x q) (ha : DSs X B p u) (hb : DSs X B r v) : DS X B (.If x p r pos) (dife q u v) := psImp (ps_if hc ha hb) fun _ _ _ h => lift_dife h
theorem ds_set {i : Nat} {x : Str} {pos' : Pos} (hN : X.N.Nodup) (hi : X.N[i]? = some x) (hx : Loc X.env.scope x) (he : DE X B e t) (hs : swapsWith e (some (.Name x pos')) pos.line X.env = pure false := by rfl)
    (hf : X.fn x = true ∨ X.env.scope.names.lookup x = some .local := by first | exact .inl rfl | exact .inr rfl | assumption) : DS X B (.Assign [.Name x pos'] e pos) (dset i t) :=
  psImp (ps_set hN hi hx he hs hf) fun _ _ _ h => lift_dset h
end

/-! ### while -/
/-- the loop by turns -/
def dwhileN (q : CT) (t : CS) : Nat → CS
  | 0 => fun _ => none
  | n + 1 => fun ℓ => match q ℓ with
    | none => none
    | some (.ex x ℓ1) => some (.ex x, ℓ1)
    | some (.ok false ℓ1) => some (.nx, ℓ1)
    | some (.ok true ℓ1) => match t ℓ1 with
      | none => none
      | some (.nx, ℓ2) => dwhileN q t n ℓ2
      | some (.ct, ℓ2) => dwhileN q t n ℓ2
      | some (.bk, ℓ2) => some (.nx, ℓ2)
      | some (.rt w, ℓ2) => some (.rt w, ℓ2)
      | some (.ex x, ℓ2) => some (.ex x, ℓ2)
theorem dwhileN_more {q : CT} {t : CS} : ∀ {n : Nat} {ℓ : LS} {r : Fl × LS}, dwhileN q t n ℓ = some r → ∀ k, dwhileN q t (n + k) ℓ = some r
  | 0, _, _, h, _ => by cases h
  | n + 1, ℓ, r, h, k => by
    rw [Nat.add_right_comm]
    unfold dwhileN at h ⊢
    cases e : q ℓ with
    | none => rw [e] at h; cases h
    | some r0 =>
      rw [e] at h
      cases r0 with
      | ex x l => exact h
      | ok b l =>
        cases b with
        | false => exact h
        | true =>
          simp only at h ⊢
          cases e2 : t l with
          | none => rw [e2] at h; cases h
          | some r1 =>
            rw [e2] at h
            obtain ⟨f, l2⟩ := r1
            cases f with
            | nx => exact dwhileN_more h k
            | ct => exact dwhileN_more h k
            | bk => exact h
            | rt w => exact h
            | ex x => exact h
open Classical in
/-- the loop: by as many turns as it takes -/
noncomputable def dwhile (q : CT) (t : CS) : CS := fun ℓ => if h : ∃ n r, dwhileN q t n ℓ = some r then dwhileN q t h.choose ℓ else none
theorem dwhile_of {q : CT} {t : CS} {n : Nat} {ℓ : LS} {r : Fl × LS} (h : dwhileN q t n ℓ = some r) : dwhile q t ℓ = some r := by
  have hh : ∃ n r, dwhileN q t n ℓ = some r := ⟨n, r, h⟩
  unfold dwhile
  rw [dif_pos hh]
  obtain ⟨r2, h2⟩ := hh.choose_spec
  have e1 := dwhileN_more h hh.choose
  have e2 := dwhileN_more h2 n
  rw [Nat.add_comm] at e2
  rw [e1] at e2
  rw [h2, ← e2]
theorem dwhile_some {q : CT} {t : CS} {ℓ : LS} {r : Fl × LS} (h : dwhile q t ℓ = some r) : ∃ n, dwhileN q t n ℓ = some r := by
  unfold dwhile at h
  split at h
  · exact ⟨_, h⟩
  · cases h
section
variable {c : DC} {F F' H H' F1 H1 : Hp} {σ : L2.St} {ℓ ℓ' ℓ1 : LS} {Wx : WX}
theorem lift_dwhile {q : CT} {t : CS} {D : Ends} (h : liftS c Wx (dwhile q t) D σ H) : tWhile (liftT c Wx q) (liftS c Wx t) D σ H := by
  obtain ⟨F, ℓ, I, p⟩ := h
  cases e0 : dwhile q t ℓ with
  | none => rw [e0] at p; exact p.elim
  | some r =>
    rw [e0] at p
    obtain ⟨n0, hn⟩ := dwhile_some e0
    refine ⟨fun m σ' H' => ∃ F' ℓ', DI c F' H' σ' ℓ' ∧ Same F F' ∧ dwhileN q t m ℓ' = some r, ⟨n0, F, ℓ, I, Same.refl _, hn⟩, ?_⟩
    rintro m σ1 H1 ⟨F1, ℓ1, I1, s1, hm⟩
    cases m with
    | zero => cases hm
    | succ m =>
      unfold dwhileN at hm
      refine ⟨F1, ℓ1, I1, ?_⟩
      cases e : q ℓ1 with
      | none => rw [e] at hm; cases hm
      | some r0 =>
        rw [e] at hm
        cases r0 with
        | ex x l => cases hm; exact fun cls dd F' H' I' s' xr => p cls dd σ1 F' H' I' (s1.trans s') xr
        | ok b l =>
          intro F2 H2 I2 s2
          cases b with
          | false => cases hm; exact p σ1 F2 H2 I2 (s1.trans s2)
          | true =>
            refine ⟨fun σ' H' => ∃ F' ℓ', DI c F' H' σ' ℓ' ∧ Same F F' ∧ dwhileN q t m ℓ' = some r, fun σ' H' w => ⟨m, Nat.lt_succ_self _, w⟩, ?_⟩
            refine ⟨F2, l, I2, ?_⟩
            simp only at hm
            cases e2 : t l with
            | none => rw [e2] at hm; cases hm
            | some r1 =>
              rw [e2] at hm
              obtain ⟨f, l2⟩ := r1
              cases f with
              | nx => exact fun σ' F' H' I' s' => ⟨F', l2, I', (s1.trans s2).trans s', hm⟩
              | ct => exact fun σ' F' H' I' s' => ⟨F', l2, I', (s1.trans s2).trans s', hm⟩
              | bk => cases hm; exact fun σ' F' H' I' s' => p σ' F' H' I' ((s1.trans s2).trans s')
              | rt w => cases hm; exact fun v σ' F' H' I' s' wr => p v σ' F' H' I' ((s1.trans s2).trans s') wr
              | ex x => cases hm; exact fun cls dd σ' F' H' I' s' xr => p cls dd σ' F' H' I' ((s1.trans s2).trans s') xr
end
section
variable {X : Cx} {B : Fr0} {e : Expr} {u : CS} {q : CT} {pos : Pos} {body : List Stmt}
theorem ds_while (hp : PassesOwn (model X.prog X.w) X.A X.env X.xe) (hc : DT X B e q) (hb : DSs X B body u) : DS X B (.While e body [] pos) (dwhile q u) := psImp (ps_while hp hc hb) fun _ _ _ h => lift_dwhile h
theorem ds_break : DS X B (.Break pos) (fun ℓ => some (.bk, ℓ)) := psImp ps_break fun _ σ H ⟨F, ℓ, I, p⟩ => p σ F H I (Same.refl _)
theorem ds_continue : DS X B (.Continue pos) (fun ℓ => some (.ct, ℓ)) := psImp ps_continue fun _ σ H ⟨F, ℓ, I, p⟩ => p σ F H I (Same.refl _)
end
end DL

/-! DL7: targets, what is walked, for, comprehensions. -/
namespace DL
open PySem PySem.Spec PyProof.Rows L2

/-! ### targets -/
inductive Pat where
  | nm (i : Nat) | tup (ps : List Pat)
mutual
def bindP : Pat → D → LS → Option LS
  | .nm i, d, ℓ => some (ℓ.set i (.im d))
  | .tup ps, .tuple ds, ℓ => bindPs ps ds ℓ
  | .tup _, _, _ => none
def bindPs : List Pat → List D → LS → Option LS
  | [], [], ℓ => some ℓ
  | p :: ps, d :: ds, ℓ => match bindP p d ℓ with
    | none => none
    | some ℓ1 => bindPs ps ds ℓ1
  | _, _, _ => none
end
mutual
def Pat.slots : Pat → List Nat
  | .nm i => [i]
  | .tup ps => patSlots ps
def patSlots : List Pat → List Nat
  | [] => []
  | p :: ps => p.slots ++ patSlots ps
end
/-- the slots but those of vs are as they were -/
def Off (σ σ' : L2.St) (vs : List Nat) : Prop := σ'.length = σ.length ∧ ∀ j, j ∉ vs → σ'[j]? = σ[j]?
theorem Off.refl {σ : L2.St} {vs : List Nat} : Off σ σ vs := ⟨rfl, fun _ _ => rfl⟩
theorem Off.trans {σ σ1 σ2 : L2.St} {vs us ws : List Nat} (a : Off σ σ1 vs) (b : Off σ1 σ2 us) (h1 : ∀ j ∈ vs, j ∈ ws) (h2 : ∀ j ∈ us, j ∈ ws) : Off σ σ2 ws :=
  ⟨b.1.trans a.1, fun j hj => (b.2 j fun h => hj (h2 j h)).trans (a.2 j fun h => hj (h1 j h))⟩
def liftG (c : DC) (p : Pat) : TG := fun v σ H Q => ∃ F ℓ d ℓ', DI c F H σ ℓ ∧ Rp c.K F v d ∧ bindP p d ℓ = some ℓ' ∧ ∀ σ' F' H', DI c F' H' σ' ℓ' → Same F F' → Off σ σ' p.slots → Q σ' H'
def liftGs (c : DC) (ps : List Pat) : TGs := fun vs σ H Q => ∃ F ℓ ds ℓ', DI c F H σ ℓ ∧ RpAll c.K F vs ds ∧ bindPs ps ds ℓ = some ℓ' ∧ ∀ σ' F' H', DI c F' H' σ' ℓ' → Same F F' → Off σ σ' (patSlots ps) → Q σ' H'
section
variable {c : DC} {F F' H H' F1 H1 : Hp} {σ : L2.St} {ℓ ℓ' ℓ1 : LS} {Wx : WX}
theorem lift_gnil {vs : List V} {Q : L2.St → Hp → Prop} (h : liftGs c [] vs σ H Q) : gNil vs σ H Q := by
  obtain ⟨F, ℓ, ds, ℓ', I, r, e, k⟩ := h
  cases r with
  | nil => cases e; exact ⟨rfl, k σ F H I (Same.refl _) Off.refl⟩
  | cons _ _ => cases e
theorem lift_gcons {p : Pat} {ps : List Pat} {vs : List V} {Q : L2.St → Hp → Prop} (h : liftGs c (p :: ps) vs σ H Q) : gCons (liftG c p) (liftGs c ps) vs σ H Q := by
  obtain ⟨F, ℓ, ds, ℓ', I, r, e, k⟩ := h
  cases r with
  | nil => cases e
  | @cons v vs d ds r1 r2 =>
    unfold bindPs at e
    cases q : bindP p d ℓ with
    | none => rw [q] at e; cases e
    | some l1 =>
      rw [q] at e
      exact ⟨v, vs, rfl, F, ℓ, d, l1, I, r1, q, fun σ' F' H' I' s' o' => ⟨F', l1, ds, ℓ', I', dpAll_mono s' r2, e, fun σ2 F2 H2 I2 s2 o2 => k σ2 F2 H2 I2 (s'.trans s2) (o'.trans o2 (fun j h => by unfold patSlots; exact List.mem_append_left _ h) fun j h => by unfold patSlots; exact List.mem_append_right _ h)⟩⟩
theorem lift_gname {i : Nat} {v : V} {Q : L2.St → Hp → Prop} (h : liftG c (.nm i) v σ H Q) : gName i v σ H Q := by
  obtain ⟨F, ℓ, d, ℓ', I, r, e, k⟩ := h
  unfold bindP at e
  cases e
  exact k _ F H (I.setIm r) (Same.refl _) ⟨by simp, fun j hj => List.getElem?_set_ne (fun h => hj (by unfold Pat.slots; simp [h]))⟩
theorem lift_gtup {ps : List Pat} {n : Nat} {v : V} {Q : L2.St → Hp → Prop} (hn : ps.length = n) (h : liftG c (.tup ps) v σ H Q) : gTup c.K n (liftGs c ps) v σ H Q := by
  obtain ⟨F, ℓ, d, ℓ', I, r, e, k⟩ := h
  cases r with
  | tup h1 h2 =>
    unfold bindP at e
    have hl : ∀ {ps : List Pat} {ds : List D} {ℓ ℓ' : LS}, bindPs ps ds ℓ = some ℓ' → ds.length = ps.length := by
      intro ps
      induction ps with
      | nil => intro ds ℓ ℓ' e; cases ds with
        | nil => rfl
        | cons _ _ => cases e
      | cons p ps ih => intro ds ℓ ℓ' e; cases ds with
        | nil => cases e
        | cons d ds =>
          unfold bindPs at e
          cases q : bindP p d ℓ with
          | none => rw [q] at e; cases e
          | some l1 => rw [q] at e; simp [ih e]
    exact ⟨_, _, rfl, sqT_mono I.sub h1, by rw [dpAll_len h2, hl e, hn], F, ℓ, _, ℓ', I, h2, e, fun σ' F' H' I' s' o' => k σ' F' H' I' s' (by unfold Pat.slots; exact o')⟩
  | non => unfold bindP at e; cases e
  | bl _ => unfold bindP at e; cases e
  | int _ => unfold bindP at e; cases e
  | str _ => unfold bindP at e; cases e
  | lst _ _ => unfold bindP at e; cases e
end
section
variable {X : Cx} {B : Fr0} {e : Expr} {es : List Expr} {p : Pat} {ps : List Pat} {pos : Pos}
abbrev DG (X : Cx) (B : Fr0) (e : Expr) (p : Pat) : Prop := PG X e (liftG (cX X B) p)
abbrev DGs (X : Cx) (B : Fr0) (e : List Expr) (p : List Pat) : Prop := PGs X e (liftGs (cX X B) p)
theorem pgImp {t t' : TG} (h : PG X e t) (k : ∀ v σ H Q, t' v σ H Q → t v σ H Q) : PG X e t' := ⟨fun pins s σ H v u Q I r q => h.run pins s σ H v u Q I r (k _ _ _ _ q)⟩
theorem pgsImp {t t' : TGs} (h : PGs X es t) (k : ∀ v σ H Q, t' v σ H Q → t v σ H Q) : PGs X es t' := ⟨fun pins s σ H v u Q I r q => h.run pins s σ H v u Q I r (k _ _ _ _ q)⟩
theorem dg_name {x : Str} (i : Nat) (hN : X.N.Nodup) (hi : X.N[i]? = some x) (hx : Loc X.env.scope x) (hf : X.fn x = true ∨ X.env.scope.names.lookup x = some .local := by first | exact .inl rfl | exact .inr rfl | assumption) : DG X B (.Name x pos) (.nm i) :=
  pgImp (pg_name hN hi hx hf) fun _ _ _ _ h => lift_gname h
theorem dgs_nil : DGs X B [] [] := pgsImp pgs_nil fun _ _ _ _ h => lift_gnil h
theorem dgs_cons (h1 : DG X B e p) (h2 : DGs X B es ps) (hs : (assignEach (e :: es) X.env).map (·.2) = assign e X.env :: (assignEach es X.env).map (·.2) := by rfl) : DGs X B (e :: es) (p :: ps) :=
  pgsImp (pgs_cons h1 h2 hs) fun _ _ _ _ h => lift_gcons h
theorem dg_tup {k : Nat} (hc : X.calm = true) (h : DGs X B es ps) (hn : (assignEach es X.env).length = ps.length := by rfl) (hst : (assignEach es X.env).findIdx? (·.1) = none := by rfl) : DG X B (.Tuple es k pos) (.tup ps) :=
  pgImp (pg_tup hc h hn hst) fun _ _ _ _ h => lift_gtup rfl h
end
/-- target = e -/
def dasg (p : Pat) (t : CE) : CS := fun ℓ => match arg t ℓ with
  | none => none
  | some (.ex x ℓ1) => some (.ex x, ℓ1)
  | some (.ok w ℓ1) => match keepW ℓ1 w with
    | none => none
    | some (d, ℓ2) => match bindP p d ℓ2 with
      | none => none
      | some ℓ3 => some (.nx, ℓ3)
section
variable {c : DC} {F F' H H' F1 H1 : Hp} {σ : L2.St} {ℓ ℓ' ℓ1 : LS} {Wx : WX}
theorem lift_dasg {p : Pat} {t : CE} {D : Ends} (h : liftS c Wx (dasg p t) D σ H) : tAsg (lift c Wx t) (liftG c p) D σ H := by
  obtain ⟨F, ℓ, I, p0⟩ := h
  refine lift_arg ⟨F, ℓ, I, ?_⟩
  unfold dasg at p0
  cases e : arg t ℓ with
  | none => rw [e] at p0; exact p0
  | some r =>
    rw [e] at p0
    cases r with
    | ex x l => exact fun cls dd F' H' I' s' xr => p0 cls dd σ F' H' I' s' xr
    | ok w l =>
      intro v F1 H1 I1 s1 wr
      have wa := wr.wa (arg_nofr e)
      cases q : keepW l w with
      | none => simp only [q] at p0; exact p0.elim
      | some dl =>
        obtain ⟨d, l2⟩ := dl
        simp only [q] at p0
        obtain ⟨F2, I2, s2, r2⟩ := keep_dp I1 wa q
        cases q2 : bindP p d l2 with
        | none => simp only [q2] at p0; exact p0.elim
        | some l3 =>
          simp only [q2] at p0
          exact ⟨F2, l2, d, l3, I2, r2, q2, fun σ' F' H' I' s' _ => p0 σ' F' H' I' ((s1.trans s2).trans s')⟩
end
section
variable {X : Cx} {B : Fr0} {tg e : Expr} {p : Pat} {t : CE} {pos : Pos}
theorem ds_asg (he : DE X B e t) (hg : DG X B tg p) (hs : swapsWithSole [tg] e pos.line X.env = pure false := by rfl) (hw : swappedStores [tg] e X.env = pure none := by rfl)
    (h1 : (assignEach [tg] X.env).map (·.2) = [assign tg X.env] := by rfl) : DS X B (.Assign [tg] e pos) (dasg p t) := psImp (ps_asg he hg hs hw h1) fun _ _ _ h => lift_dasg h
end
/-- a, b = x, y with plain locals: no pair is made -/
def dpar (i j : Nat) (t : CA) : CS := fun ℓ => match t ℓ with
  | none => none
  | some (.ex x ℓ1) => some (.ex x, ℓ1)
  | some (.ok [w1, w2] ℓ1) => (match keepW ℓ1 w1 with
    | none => none
    | some (d1, ℓ2) => match keepW ℓ2 w2 with
      | none => none
      | some (d2, ℓ3) => some (.nx, (ℓ3.set i (.im d1)).set j (.im d2)))
  | some (.ok _ ℓ1) => none
section
variable {c : DC} {F F' H H' F1 H1 : Hp} {σ : L2.St} {ℓ ℓ' ℓ1 : LS} {Wx : WX}
theorem lift_dpar {i j : Nat} {t : CA} {D : Ends} (h : liftS c Wx (dpar i j t) D σ H) : tPar i j (liftA c Wx t) D σ H := by
  obtain ⟨F, ℓ, I, p0⟩ := h
  refine ⟨F, ℓ, I, ?_⟩
  unfold dpar at p0
  cases e : t ℓ with
  | none => rw [e] at p0; exact p0
  | some r =>
    rw [e] at p0
    cases r with
    | ex x l => exact fun cls dd F' H' I' s' xr => p0 cls dd σ F' H' I' s' xr
    | ok ws l =>
      intro vs F1 H1 I1 s1 wa
      match ws, vs, wa, p0 with
      | [w1, w2], [v1, v2], wa, p0 =>
        simp only at p0
        cases q : keepW l w1 with
        | none => simp only [q] at p0; exact p0.elim
        | some dl =>
          obtain ⟨d1, l2⟩ := dl
          simp only [q] at p0
          obtain ⟨F2, I2, s2, r2⟩ := keep_dp I1 wa.1 q
          cases q2 : keepW l2 w2 with
          | none => simp only [q2] at p0; exact p0.elim
          | some dl =>
            obtain ⟨d2, l3⟩ := dl
            simp only [q2] at p0
            obtain ⟨F3, I3, s3, r3⟩ := keep_dp I2 (wa.2.1.mono s2) q2
            exact ⟨v1, v2, rfl, p0 _ F3 H1 ((I3.setIm (dp_mono s3 r2)).setIm r3) ((s1.trans s2).trans s3)⟩
      | [], _, _, p0 => exact p0.elim
      | [_], _, _, p0 => exact p0.elim
      | _ :: _ :: _ :: _, _, _, p0 => exact p0.elim
      | [_, _], [], wa, _ => exact wa.elim
      | [_, _], [_], wa, _ => exact wa.2.elim
      | [_, _], _ :: _ :: _ :: _, wa, _ => exact wa.2.2.elim
end
section
variable {X : Cx} {B : Fr0} {a b : Expr} {t : CA} {pos : Pos}
theorem ds_par {i j : Nat} {x y : Str} {px py pt : Pos} {kt k2 pt2} (hc : X.calm = true) (hN : X.N.Nodup) (hi : X.N[i]? = some x) (hj : X.N[j]? = some y) (hij : i ≠ j) (hx : X.env.scope.names.lookup x = some .local) (hy : X.env.scope.names.lookup y = some .local)
    (ha : DA X B [a, b] t) (hw : swappedStores [.Tuple [.Name x px, .Name y py] kt pt] (.Tuple [a, b] k2 pt2) X.env = pure (some [x, y])) (hs : swapsWithSole [.Tuple [.Name x px, .Name y py] kt pt] (.Tuple [a, b] k2 pt2) pos.line X.env = pure false := by rfl) :
    DS X B (.Assign [.Tuple [.Name x px, .Name y py] kt pt] (.Tuple [a, b] k2 pt2) pos) (dpar i j t) := psImp (ps_par hc hN hi hj hij hx hy ha hw hs) fun _ _ _ h => lift_dpar h
end

/-! ### what is walked -/
structure Src (K : PySem.W.Frag) (J : It) (F : Hp) (ds : List D) : Prop where
  go : ∀ (c : DC) i F' H' σ ℓ, c.K = K → i < ds.length → DI c F' H' σ ℓ → Same F F' → J.go i H'
  yl : ∀ (c : DC) (i : Nat) (d : D) (F' H' : Hp) (σ : L2.St) (ℓ : LS) (x : V) (H'' : Hp), c.K = K → ds[i]? = some d → DI c F' H' σ ℓ → Same F F' → J.yld i H' x H'' → Same H' H'' ∧ ∃ F'', DI c F'' H'' σ ℓ ∧ Same F' F'' ∧ Rp K F'' x d
  st : ∀ (c : DC) F' H' σ ℓ, c.K = K → DI c F' H' σ ℓ → Same F F' → J.stop ds.length H'
abbrev CI := LS → Option (Res (List D))
def liftI (c : DC) (Wx : WX) (t : CI) : TI := fun σ H R => ∃ F ℓ, DI c F H σ ℓ ∧ match t ℓ with
  | none => False
  | some (.ex x ℓ1) => ∀ cls dd F' H', DI c F' H' σ ℓ1 → Same F F' → XR c F' H' x cls dd → Wx cls dd σ H'
  | some (.ok ds ℓ1) => ∀ J F' H', DI c F' H' σ ℓ1 → Same F F' → Src c.K J F' ds → R J H'
abbrev DIt (X : Cx) (B : Fr0) (tg e : Expr) (t : CI) : Prop := PI X tg e (liftI (cX X B) B.W t)
theorem piImp {X : Cx} {tg e : Expr} {w w' : TI} (h : PI X tg e w) (k : ∀ σ H R, w' σ H R → w σ H R) : PI X tg e w' := ⟨fun pins s σ H R I q => h.run pins s σ H R I (k _ _ _ q)⟩
theorem piOr {X : Cx} {tg e : Expr} {w w' : TI} (h : PI X tg e w) (h' : PI X tg e w') : PI X tg e (fun σ H R => w σ H R ∨ w' σ H R) := ⟨fun pins s σ H R I q => q.elim (h.run pins s σ H R I) (h'.run pins s σ H R I)⟩
section
variable {c : DC} {F F' H H' F1 H1 : Hp} {σ : L2.St} {ℓ ℓ' ℓ1 : LS} {Wx : WX}
theorem src_list {K : PySem.W.Frag} {a : Addr} {vs : List V} {ds : List D} (h : SqL K F a vs) (r : RpAll K F vs ds) : Src K (Itl K a) F ds where
  go := fun c i F' H' σ ℓ hK hi I s => by
    have hl := dpAll_len r
    exact ⟨vs, vs[i]'(by omega), (sqL_mono I.sub (sqL_mono s h)), by simp [show i < vs.length by omega]⟩
  yl := fun c i d F' H' σ ℓ x H'' hK hd I s y => by
    obtain ⟨v, h1, h2⟩ := dpAll_get r hd
    have e := y.2 vs ((sqL_mono I.sub (sqL_mono s h)))
    rw [h1] at e; cases e
    rw [y.1]
    exact ⟨Same.refl _, F', I, Same.refl _, dp_mono s h2⟩
  st := fun c F' H' σ ℓ hK I s => ⟨vs, (sqL_mono I.sub (sqL_mono s h)), by rw [dpAll_len r]; exact Nat.le_refl _⟩
theorem src_tup {K : PySem.W.Frag} {a : Addr} {vs : List V} {ds : List D} (h : SqT K F a vs) (r : RpAll K F vs ds) : Src K (Itt K a) F ds where
  go := fun c i F' H' σ ℓ hK hi I s => by
    have hl := dpAll_len r
    exact ⟨vs, vs[i]'(by omega), sqT_mono I.sub (sqT_mono s h), by simp [show i < vs.length by omega]⟩
  yl := fun c i d F' H' σ ℓ x H'' hK hd I s y => by
    obtain ⟨v, h1, h2⟩ := dpAll_get r hd
    have e := y.2 vs (sqT_mono I.sub (sqT_mono s h))
    rw [h1] at e; cases e
    rw [y.1]
    exact ⟨Same.refl _, F', I, Same.refl _, dp_mono s h2⟩
  st := fun c F' H' σ ℓ hK I s => ⟨vs, sqT_mono I.sub (sqT_mono s h), by rw [dpAll_len r]; exact Nat.le_refl _⟩
def signs (x : Str) : List D := x.cps.toList.map fun k => .str ⟨#[k]⟩
theorem src_str {K : PySem.W.Frag} {x : Str} : Src K (Its x) F (signs x) where
  go := fun c i F' H' σ ℓ hK hi I s => by simpa [signs, Its] using hi
  yl := fun c i d F' H' σ ℓ v H'' hK hd I s y => by
    obtain ⟨e, k, h1, h2⟩ := y
    subst e h2
    unfold signs at hd
    rw [List.getElem?_map, Array.getElem?_toList, h1] at hd
    cases hd
    exact ⟨Same.refl _, F', I, Same.refl _, .str _⟩
  st := fun c F' H' σ ℓ hK I s => by simp [signs, Its]
def rgI (lo : Int) (n : Nat) : List D := (List.range n).map fun (k : Nat) => .int (lo + (k : Int))
theorem src_range {K : PySem.W.Frag} {lo : Int} {n : Nat} : Src K (Itr lo n) F (rgI lo n) where
  go := fun c i F' H' σ ℓ hK hi I s => by simpa [rgI, Itr] using hi
  yl := fun c i d F' H' σ ℓ v H'' hK hd I s y => by
    obtain ⟨e, h2⟩ := y
    subst e h2
    have hi : i < n := by
      have := (List.getElem?_eq_some_iff.mp hd).1
      simpa [rgI] using this
    unfold rgI at hd
    rw [List.getElem?_map, List.getElem?_range hi] at hd
    cases hd
    exact ⟨Same.refl _, F', I, Same.refl _, .int _⟩
  st := fun c F' H' σ ℓ hK I s => by simp [rgI, Itr]
def intsC (lo c : Int) (n : Nat) : List D := (List.range n).map fun (k : Nat) => .int (lo + (k : Int) * c)
theorem src_rangeC {K : PySem.W.Frag} {lo c0 : Int} {n : Nat} : Src K (Itc lo c0 n) F (intsC lo c0 n) where
  go := fun c i F' H' σ ℓ hK hi I s => by simpa [intsC, Itc] using hi
  yl := fun c i d F' H' σ ℓ v H'' hK hd I s y => by
    obtain ⟨e, h2⟩ := y
    subst e h2
    have hi : i < n := by
      have := (List.getElem?_eq_some_iff.mp hd).1
      simpa [intsC] using this
    unfold intsC at hd
    rw [List.getElem?_map, List.getElem?_range hi] at hd
    cases hd
    exact ⟨Same.refl _, F', I, Same.refl _, .int _⟩
  st := fun c F' H' σ ℓ hK I s => by simp [intsC, Itc]
/-- items of a list, a tuple, a text -/
def items : D → Option (List D)
  | .list ds => some ds
  | .tuple ds => some ds
  | .str x => some (signs x)
  | _ => none
def dit (t : CE) : CI := fun ℓ => match arg t ℓ with
  | none => none
  | some (.ex x ℓ1) => some (.ex x ℓ1)
  | some (.ok w ℓ1) => match keepW ℓ1 w with
    | none => none
    | some (d, ℓ2) => match items d with
      | none => none
      | some ds => some (.ok ds ℓ2)
theorem lift_dit {t : CE} {R : It → Hp → Prop} (h : liftI c Wx (dit t) σ H R) : iList c.K (lift c Wx t) σ H R ∨ iTup c.K (lift c Wx t) σ H R ∨ iStr (lift c Wx t) σ H R := by
  obtain ⟨F, ℓ, I, p⟩ := h
  unfold dit at p
  cases e : arg t ℓ with
  | none => simp only [e] at p
  | some r =>
    cases r with
    | ex x l =>
      simp only [e] at p
      refine .inl (lift_arg ⟨F, ℓ, I, ?_⟩)
      rw [e]
      exact p
    | ok w l =>
      simp only [e] at p
      cases q : keepW l w with
      | none => simp only [q] at p
      | some dl =>
        obtain ⟨d, l2⟩ := dl
        simp only [q] at p
        have got : ∀ v F1 H1, DI c F1 H1 σ l → WR c F1 H1 σ l w v → ∃ F2, DI c F2 H1 σ l2 ∧ Same F1 F2 ∧ Rp c.K F2 v d := fun v F1 H1 I1 wr => keep_dp I1 (wr.wa (arg_nofr e)) q
        cases d with
        | list ds =>
          refine .inl (lift_arg ⟨F, ℓ, I, ?_⟩)
          rw [e]
          intro v F1 H1 I1 s1 wr
          obtain ⟨F2, I2, s2, r2⟩ := got v F1 H1 I1 wr
          obtain ⟨a, xs, e1, e2, e3⟩ := dp_lst r2
          exact ⟨a, e1, ⟨xs, sqL_mono I2.sub e2⟩, p _ F2 H1 I2 (s1.trans s2) (src_list e2 e3)⟩
        | tuple ds =>
          refine .inr (.inl (lift_arg ⟨F, ℓ, I, ?_⟩))
          rw [e]
          intro v F1 H1 I1 s1 wr
          obtain ⟨F2, I2, s2, r2⟩ := got v F1 H1 I1 wr
          obtain ⟨a, xs, e1, e2, e3⟩ := dp_tup r2
          exact ⟨a, e1, ⟨xs, sqT_mono I2.sub e2⟩, p _ F2 H1 I2 (s1.trans s2) (src_tup e2 e3)⟩
        | str x =>
          refine .inr (.inr (lift_arg ⟨F, ℓ, I, ?_⟩))
          rw [e]
          intro v F1 H1 I1 s1 wr
          obtain ⟨F2, I2, s2, r2⟩ := got v F1 H1 I1 wr
          exact ⟨x, dp_str r2, p _ F2 H1 I2 (s1.trans s2) src_str⟩
        | none => exact p.elim
        | bool b => exact p.elim
        | int b => exact p.elim
        | dict b => exact p.elim
/-- range(a), range(a, b), range(a, b, c) -/
def small62 (i : Int) : Bool := decide (-4611686018427387904 ≤ i) && decide (i < 4611686018427387904)
def drg1 (t : CE) : CI := fun ℓ => match arg t ℓ with
  | none => none
  | some (.ex x ℓ1) => some (.ex x ℓ1)
  | some (.ok w ℓ1) => match peek ℓ1 w with
    | some (.int j) => if small62 j then some (.ok (rgI 0 j.toNat) ℓ1) else none
    | _ => none
def rg2 : List D → Option (List D)
  | [.int i, .int j] => if small62 i && small62 j then some (rgI i (j - i).toNat) else none
  | _ => none
def rg3 : List D → Option (List D)
  | [.int i, .int j, .int c] => if decide (c ≠ 0) && decide (c.natAbs < 1073741824) && Builtin.Range.small i j c && decide (0 ≤ Builtin.Range.rangeSize i j c) then some (intsC i c (Builtin.Range.rangeSize i j c).toNat) else none
  | _ => none
/-- a source made of arguments that are read -/
def dsrc (f : List D → Option (List D)) (t : CA) : CI := fun ℓ => match t ℓ with
  | none => none
  | some (.ex x ℓ1) => some (.ex x ℓ1)
  | some (.ok ws ℓ1) => match peeks ℓ1 ws with
    | none => none
    | some xs => match f xs with
      | none => none
      | some ds => some (.ok ds ℓ1)
theorem lift_dsrc {f : List D → Option (List D)} {t : CA} {R : It → Hp → Prop} {T : List V → Hp → Prop} (h : liftI c Wx (dsrc f t) σ H R)
    (k : ∀ vs F1 H1 ℓ1 xs ds, DI c F1 H1 σ ℓ1 → RpAll c.K H1 vs xs → f xs = some ds → (∀ J, Src c.K J F1 ds → R J H1) → T vs H1) : liftA c Wx t σ H T := by
  obtain ⟨F, ℓ, I, p⟩ := h
  refine ⟨F, ℓ, I, ?_⟩
  unfold dsrc at p
  cases e : t ℓ with
  | none => simp only [e] at p
  | some r =>
    cases r with
    | ex x l => simp only [e] at p ⊢; exact p
    | ok ws l =>
      simp only [e] at p ⊢
      intro vs F1 H1 I1 s1 wa
      cases q : peeks l ws with
      | none => simp only [q] at p
      | some xs =>
        simp only [q] at p
        cases q2 : f xs with
        | none => simp only [q2] at p
        | some ds =>
          simp only [q2] at p
          exact k vs F1 H1 l xs ds I1 (peeks_dp I1 wa q) q2 fun J S => p J F1 H1 I1 s1 S
theorem rpAll_1 {K : PySem.W.Frag} {F : Hp} {vs : List V} {d : D} (h : RpAll K F vs [d]) : ∃ v, vs = [v] ∧ Rp K F v d := by
  cases h with
  | cons h t => cases t; exact ⟨_, rfl, h⟩
theorem rpAll_2 {K : PySem.W.Frag} {F : Hp} {vs : List V} {d e : D} (h : RpAll K F vs [d, e]) : ∃ v u, vs = [v, u] ∧ Rp K F v d ∧ Rp K F u e := by
  cases h with
  | cons h t =>
    obtain ⟨u, rfl, q⟩ := rpAll_1 t
    exact ⟨_, u, rfl, h, q⟩
theorem rpAll_3 {K : PySem.W.Frag} {F : Hp} {vs : List V} {d e f : D} (h : RpAll K F vs [d, e, f]) : ∃ v u w, vs = [v, u, w] ∧ Rp K F v d ∧ Rp K F u e ∧ Rp K F w f := by
  cases h with
  | cons h t =>
    obtain ⟨u, w, rfl, q, q2⟩ := rpAll_2 t
    exact ⟨_, u, w, rfl, h, q, q2⟩
theorem small62_le {i : Int} (h : small62 i = true) : -(2 ^ 62) ≤ i ∧ i < 2 ^ 62 := by
  simp only [small62, Bool.and_eq_true, decide_eq_true_eq] at h
  omega
theorem lift_drg1 {t : CE} {R : It → Hp → Prop} (h : liftI c Wx (drg1 t) σ H R) : iRng1 (liftA c Wx (dcons t dnil)) σ H R := by
  obtain ⟨F, ℓ, I, p⟩ := h
  refine ⟨F, ℓ, I, ?_⟩
  unfold drg1 at p
  unfold dcons
  cases e : arg t ℓ with
  | none => simp only [e] at p
  | some r =>
    cases r with
    | ex x l => simp only [e] at p ⊢; exact p
    | ok w l =>
      simp only [e] at p ⊢
      intro vs F1 H1 I1 s1 wa
      cases vs with
      | nil => exact wa.elim
      | cons v vs =>
        cases vs with
        | cons _ _ => exact wa.2.elim
        | nil =>
          cases q : peek l w with
          | none => simp only [q] at p
          | some d =>
            simp only [q] at p
            cases d with
            | int j =>
              simp only at p
              by_cases hs : small62 j = true
              · simp only [hs, if_true] at p
                have hb := small62_le hs
                exact ⟨j, by rw [dp_int (peek_dp I1 wa.1 q)], hb.1, hb.2, p _ F1 H1 I1 s1 src_range⟩
              · simp only [hs, if_false] at p
                exact p.elim
            | _ => exact p.elim
theorem lift_drg2 {t : CA} {R : It → Hp → Prop} (h : liftI c Wx (dsrc rg2 t) σ H R) : iRng2 (liftA c Wx t) σ H R := by
  refine lift_dsrc h fun vs F1 H1 ℓ1 xs ds I1 r q k => ?_
  unfold rg2 at q
  split at q
  · rename_i i j
    split at q
    · rename_i hs
      cases q
      rw [Bool.and_eq_true] at hs
      obtain ⟨v, u, rfl, r1, r2⟩ := rpAll_2 r
      have h1 := small62_le hs.1
      have h2 := small62_le hs.2
      exact ⟨i, j, by rw [dp_int r1, dp_int r2], ⟨h1.1, h1.2, h2.1, h2.2⟩, k _ src_range⟩
    · cases q
  · cases q
theorem lift_drg3 {t : CA} {R : It → Hp → Prop} (h : liftI c Wx (dsrc rg3 t) σ H R) : iRng3 (liftA c Wx t) σ H R := by
  refine lift_dsrc h fun vs F1 H1 ℓ1 xs ds I1 r q k0 => ?_
  unfold rg3 at q
  split at q
  · rename_i i j k
    split at q
    · rename_i hs
      cases q
      simp only [Bool.and_eq_true, decide_eq_true_eq] at hs
      obtain ⟨v, u, w, rfl, r1, r2, r3⟩ := rpAll_3 r
      exact ⟨i, j, k, _, by rw [dp_int r1, dp_int r2, dp_int r3], ⟨hs.1.1.1, hs.1.1.2, hs.1.2, by have := hs.2; omega⟩, k0 _ src_rangeC⟩
    · cases q
  · cases q
end
section
variable {X : Cx} {B : Fr0} {tg a b e : Expr} {t : CE} {ta : CA} {p pos : Pos}
theorem di_any (h : DE X B e t) : DIt X B tg e (dit t) := piImp (piOr (pi_list h) (piOr (pi_tup h) (pi_str h))) fun _ _ _ q => lift_dit q
theorem di_rg1 (hg : Gl X "range") (hm : X.mg "range" = none) (ha : DE X B a t) (hs : starEach [a] X.env = [(false, eval a X.env)] := by rfl) : DIt X B tg (.Call (.Name "range" p) [a] [] pos) (drg1 t) :=
  piImp (pi_range1 hg hm (da_cons ha da_nil hs) hs) fun _ _ _ q => lift_drg1 q
theorem di_rg2 (hg : Gl X "range") (hm : X.mg "range" = none) (ha : DA X B [a, b] ta) (hs : starEach [a, b] X.env = [(false, eval a X.env), (false, eval b X.env)] := by rfl) (hs2 : starEach [b] X.env = [(false, eval b X.env)] := by rfl) :
    DIt X B tg (.Call (.Name "range" p) [a, b] [] pos) (dsrc rg2 ta) := piImp (pi_range2 hg hm ha hs hs2) fun _ _ _ q => lift_drg2 q
theorem di_rg3 {x : Expr} (hg : Gl X "range") (hm : X.mg "range" = none) (ha : DA X B [a, b, x] ta) (hs : starEach [a, b, x] X.env = (false, eval a X.env) :: starEach [b, x] X.env := by rfl) (hs2 : (backTo pos (starEach [b, x] X.env)).any (·.1) = false := by rfl) :
    DIt X B tg (.Call (.Name "range" p) [a, b, x] [] pos) (dsrc rg3 ta) := piImp (pi_range3 hg hm ha hs hs2) fun _ _ _ q => lift_drg3 q
end

/-! ### for -/
def dforL (p : Pat) (t : CS) : List D → CS
  | [], ℓ => some (.nx, ℓ)
  | d :: ds, ℓ => match bindP p d ℓ with
    | none => none
    | some ℓ1 => match t ℓ1 with
      | none => none
      | some (.nx, ℓ2) => dforL p t ds ℓ2
      | some (.ct, ℓ2) => dforL p t ds ℓ2
      | some (.bk, ℓ2) => some (.nx, ℓ2)
      | some (.rt w, ℓ2) => some (.rt w, ℓ2)
      | some (.ex x, ℓ2) => some (.ex x, ℓ2)
def dfor (src : CI) (p : Pat) (t : CS) : CS := fun ℓ => match src ℓ with
  | none => none
  | some (.ex x ℓ1) => some (.ex x, ℓ1)
  | some (.ok ds ℓ1) => dforL p t ds ℓ1
section
variable {c : DC} {F F' H H' F1 H1 : Hp} {σ : L2.St} {ℓ ℓ' ℓ1 : LS} {Wx : WX}
theorem drop_get {α : Type} {xs : List α} {i : Nat} (h : i < xs.length) : ∃ x, xs[i]? = some x ∧ xs.drop i = x :: xs.drop (i + 1) := ⟨xs[i], by simp [h], List.drop_eq_getElem_cons h⟩
theorem lift_dfor {src : CI} {p : Pat} {t : CS} {D : Ends} (h : liftS c Wx (dfor src p t) D σ H) : tFor (liftI c Wx src) (liftG c p) (liftS c Wx t) D σ H := by
  obtain ⟨F, ℓ, I, p0⟩ := h
  refine ⟨F, ℓ, I, ?_⟩
  unfold dfor at p0
  cases e : src ℓ with
  | none => rw [e] at p0; exact p0
  | some r =>
    rw [e] at p0
    cases r with
    | ex x l => exact fun cls dd F' H' I' s' xr => p0 cls dd σ F' H' I' s' xr
    | ok ds l =>
      intro J F1 H1 I1 s1 S
      simp only at p0
      obtain ⟨R0, hR⟩ : ∃ R0, dforL p t ds l = R0 := ⟨_, rfl⟩
      rw [hR] at p0
      refine ⟨fun i m σ' H' => m = ds.length - i ∧ i ≤ ds.length ∧ ∃ F' ℓ', DI c F' H' σ' ℓ' ∧ Same F1 F' ∧ dforL p t (ds.drop i) ℓ' = R0, ⟨_, rfl, Nat.zero_le _, F1, l, I1, Same.refl _, hR⟩, ?_⟩
      rintro i m σ2 H2 ⟨rfl, hi, F2, ℓ2, I2, s2, hr⟩
      by_cases hlt : i < ds.length
      · refine .inr ⟨S.go c i F2 H2 σ2 ℓ2 rfl hlt I2 s2, fun σ' H' => i + 1 ≤ ds.length ∧ ∃ F' ℓ', DI c F' H' σ' ℓ' ∧ Same F1 F' ∧ dforL p t (ds.drop (i + 1)) ℓ' = R0,
          fun σ' H' w => ⟨ds.length - (i + 1), by omega, rfl, w.1, w.2⟩, fun x H3 y => ?_⟩
        obtain ⟨d, hd, hdr⟩ := drop_get hlt
        obtain ⟨sH, F3, I3, s3, r3⟩ := S.yl c i d F2 H2 σ2 ℓ2 x H3 rfl hd I2 s2 y
        rw [hdr] at hr
        unfold dforL at hr
        rw [← hr] at p0
        cases q : bindP p d ℓ2 with
        | none => simp only [q] at p0; exact p0.elim
        | some l1 =>
          simp only [q] at p0 hr
          refine ⟨F3, ℓ2, d, l1, I3, r3, q, fun σ4 F4 H4 I4 s4 _ => ⟨F4, l1, I4, ?_⟩⟩
          cases q2 : t l1 with
          | none => simp only [q2] at p0; exact p0.elim
          | some r2 =>
            obtain ⟨f, l2⟩ := r2
            have sall := (s1.trans s2).trans (s3.trans s4)
            cases f with
            | nx =>
              simp only [q2] at hr
              exact fun σ' F' H' I' s' => ⟨by omega, F', l2, I', (s2.trans (s3.trans s4)).trans s', hr⟩
            | ct =>
              simp only [q2] at hr
              exact fun σ' F' H' I' s' => ⟨by omega, F', l2, I', (s2.trans (s3.trans s4)).trans s', hr⟩
            | bk =>
              simp only [q2] at p0
              exact fun σ' F' H' I' s' => p0 σ' F' H' I' (sall.trans s')
            | rt w =>
              simp only [q2] at p0
              exact fun v σ' F' H' I' s' wr => p0 v σ' F' H' I' (sall.trans s') wr
            | ex x =>
              simp only [q2] at p0
              exact fun cls dd σ' F' H' I' s' xr => p0 cls dd σ' F' H' I' (sall.trans s') xr
      · have ei : i = ds.length := by omega
        subst ei
        refine .inl ⟨S.st c F2 H2 σ2 ℓ2 rfl I2 s2, ?_⟩
        rw [List.drop_length] at hr
        unfold dforL at hr
        rw [← hr] at p0
        exact p0 σ2 F2 H2 I2 (s1.trans s2)
end
section
variable {X : Cx} {B : Fr0} {tg e : Expr} {src : CI} {p : Pat} {t : CS} {pos : Pos} {body : List Stmt}
theorem ds_for (hp : PassesOwn (model X.prog X.w) X.A X.env X.xe) (hc : X.calm = true) (hi : DIt X B tg e src) (hg : DG X B tg p) (hb : DSs X B body t) (hs : ∀ x, foldedSetIterable e X.env x = pure x := by intro _; rfl) :
    DS X B (.For tg e body [] pos) (dfor src p t) := psImp (ps_for hp hc hi hg hb hs) fun _ _ _ h => lift_dfor h
end
end DL

/-! DL8: comprehensions. -/
namespace DL
open PySem PySem.Spec PyProof.Rows L2

def wipeL (ℓ : LS) : List Nat → LS
  | [] => ℓ
  | v :: vs => (wipeL ℓ vs).set v .un
def backL (ℓ : LS) (v : Nat) : L := match ℓ[v]? with
  | some (.im d) => .im d
  | _ => .un
def restL (ℓ ℓ2 : LS) : List Nat → LS
  | [] => ℓ2
  | v :: vs => (restL ℓ ℓ2 vs).set v (backL ℓ v)
def dlcL (p : Pat) (vs : List Nat) (q : CT) (t : CE) : List D → LS → List D → Option (List D × LS)
  | [], ℓ, acc => some (acc, ℓ)
  | d :: ds, ℓ, acc => match bindP p d ℓ with
    | none => none
    | some ℓ1 => match q ℓ1 with
      | none => none
      | some (.ex _ _) => none
      | some (.ok false ℓ2) => dlcL p vs q t ds (wipeL ℓ2 vs) acc
      | some (.ok true ℓ2) => match arg t ℓ2 with
        | none => none
        | some (.ex _ _) => none
        | some (.ok w ℓ3) => match keepW ℓ3 w with
          | none => none
          | some (x, ℓ4) => if acc.length < 16777216 then dlcL p vs q t ds (wipeL ℓ4 vs) (acc ++ [x]) else none
def dlc (src : CI) (p : Pat) (vs : List Nat) (q : CT) (t : CE) : CE := fun ℓ => match src ℓ with
  | none => none
  | some (.ex x ℓ1) => some (.ex x ℓ1)
  | some (.ok ds ℓ1) => match dlcL p vs q t ds (wipeL ℓ1 vs) [] with
    | none => none
    | some (acc, ℓ2) => some (.ok (.fr acc) (restL ℓ1 ℓ2 vs))
section
variable {c : DC} {F F' H H' F1 H1 : Hp} {σ σ' : L2.St} {ℓ ℓ' ℓ1 : LS} {Wx : WX}
theorem DI.setUn {v : Nat} (I : DI c F H σ ℓ) (x : Option V) : DI c F H (σ.set v x) (ℓ.set v .un) where
  sub := I.sub
  ent := I.ent
  old := I.old
  ge := I.ge
  len := by rw [List.length_set, List.length_set]; exact I.len
  im := fun j e q => by
    by_cases hj : j = v
    · subst hj
      have hl : j < ℓ.length := by have := (List.getElem?_eq_some_iff.mp q).1; simpa using this
      rw [List.getElem?_set_self hl] at q; cases q
    · rw [List.getElem?_set_ne (Ne.symm hj)] at q
      rw [List.getElem?_set_ne (Ne.symm hj)]
      exact I.im j e q
  ow := fun j es q => by
    by_cases hj : j = v
    · subst hj
      have hl : j < ℓ.length := by have := (List.getElem?_eq_some_iff.mp q).1; simpa using this
      rw [List.getElem?_set_self hl] at q; cases q
    · rw [List.getElem?_set_ne (Ne.symm hj)] at q
      rw [List.getElem?_set_ne (Ne.symm hj)]
      exact I.ow j es q
  dis := fun j k a es fs q1 q2 z1 z2 => by
    have ne : ∀ (m : Nat) (es : List D), (ℓ.set v .un)[m]? = some (.ow es) → m ≠ v ∧ ℓ[m]? = some (.ow es) := fun m es q => by
      by_cases hm : m = v
      · subst hm
        have hl : m < ℓ.length := by have := (List.getElem?_eq_some_iff.mp q).1; simpa using this
        rw [List.getElem?_set_self hl] at q; cases q
      · rw [List.getElem?_set_ne (Ne.symm hm)] at q; exact ⟨hm, q⟩
    obtain ⟨n1, e1⟩ := ne j es q1
    obtain ⟨n2, e2⟩ := ne k fs q2
    rw [List.getElem?_set_ne (Ne.symm n1)] at z1
    rw [List.getElem?_set_ne (Ne.symm n2)] at z2
    exact I.dis j k a es fs e1 e2 z1 z2
  xs := fun j q => by
    by_cases hj : j = v
    · subst hj
      have hl : j < ℓ.length := by have := (List.getElem?_eq_some_iff.mp q).1; simpa using this
      rw [List.getElem?_set_self hl] at q; cases q
    · rw [List.getElem?_set_ne (Ne.symm hj)] at q
      rw [List.getElem?_set_ne (Ne.symm hj)]
      exact I.xs j q
  xr := I.xr
theorem DI.wipe (I : DI c F H σ ℓ) : ∀ vs : List Nat, DI c F H (L2.wipe σ vs) (wipeL ℓ vs)
  | [] => I
  | v :: vs => by unfold L2.wipe wipeL; exact (I.wipe vs).setUn _
theorem wipe_get (σ : L2.St) (j : Nat) : ∀ vs : List Nat, j ∉ vs → (L2.wipe σ vs)[j]? = σ[j]?
  | [], _ => rfl
  | v :: vs, h => by
    unfold L2.wipe
    rw [List.getElem?_set_ne (fun e => h (by simp [e]))]
    exact wipe_get σ j vs fun z => h (List.mem_cons_of_mem _ z)
theorem wipe_in (σ : L2.St) (j : Nat) (hj : j < σ.length) : ∀ vs : List Nat, j ∈ vs → (L2.wipe σ vs)[j]? = some none
  | [], h => by cases h
  | v :: vs, h => by
    unfold L2.wipe
    by_cases e : v = j
    · subst e
      rw [List.getElem?_set_self (by rw [wipe_length]; exact hj)]
    · rw [List.getElem?_set_ne e]
      exact wipe_in σ j hj vs ((List.mem_cons.mp h).resolve_left fun z => e z.symm)
theorem wipe_off {vs us : List Nat} (o : Off (L2.wipe σ vs) σ' us) (h : ∀ j ∈ us, j ∈ vs) : L2.wipe σ' vs = L2.wipe σ vs := by
  apply List.ext_getElem?
  intro j
  have hl : σ'.length = σ.length := o.1.trans (wipe_length _ _)
  by_cases hj : j ∈ vs
  · by_cases hlt : j < σ.length
    · rw [wipe_in σ j hlt vs hj, wipe_in σ' j (by omega) vs hj]
    · rw [List.getElem?_eq_none (by rw [wipe_length]; omega), List.getElem?_eq_none (by rw [wipe_length]; omega)]
  · rw [wipe_get _ _ _ hj, o.2 j fun z => hj (h j z)]
theorem rest_get (ℓ ℓ2 : LS) (j : Nat) : ∀ vs : List Nat, j ∉ vs → (restL ℓ ℓ2 vs)[j]? = ℓ2[j]?
  | [], _ => rfl
  | v :: vs, h => by
    unfold restL
    rw [List.getElem?_set_ne (fun e => h (by simp [e]))]
    exact rest_get ℓ ℓ2 j vs fun z => h (List.mem_cons_of_mem _ z)
theorem rest_length (ℓ ℓ2 : LS) : ∀ vs : List Nat, (restL ℓ ℓ2 vs).length = ℓ2.length
  | [] => rfl
  | v :: vs => by unfold restL; rw [List.length_set, rest_length]
theorem rest_in (ℓ ℓ2 : LS) (j : Nat) (hj : j < ℓ2.length) : ∀ vs : List Nat, j ∈ vs → (restL ℓ ℓ2 vs)[j]? = some (backL ℓ j)
  | [], h => by cases h
  | v :: vs, h => by
    unfold restL
    by_cases e : v = j
    · subst e
      rw [List.getElem?_set_self (by rw [rest_length]; exact hj)]
    · rw [List.getElem?_set_ne e]
      exact rest_in ℓ ℓ2 j hj vs ((List.mem_cons.mp h).resolve_left fun z => e z.symm)
/-- behind a comprehension its own names are as they were -/
theorem DI.rest {ℓ2 : LS} {vs : List Nat} (I : DI c F H σ ℓ) (I2 : DI c F' H' (L2.wipe σ vs) ℓ2) (s : Same F F') : DI c F' H' σ (restL ℓ ℓ2 vs) := by
  have hl2 : ℓ2.length = σ.length := I2.len.trans (wipe_length _ _)
  have split : ∀ (j : Nat) (l : L), (restL ℓ ℓ2 vs)[j]? = some l → (j ∉ vs ∧ ℓ2[j]? = some l ∧ (L2.wipe σ vs)[j]? = σ[j]?) ∨ l = backL ℓ j := fun j l q => by
    by_cases hj : j ∈ vs
    · have hlt : j < ℓ2.length := by have := (List.getElem?_eq_some_iff.mp q).1; rw [rest_length] at this; exact this
      rw [rest_in ℓ ℓ2 j hlt vs hj] at q
      cases q
      exact .inr rfl
    · rw [rest_get ℓ ℓ2 j vs hj] at q
      exact .inl ⟨hj, q, wipe_get _ _ _ hj⟩
  have nback : ∀ (j : Nat) (es : List D), backL ℓ j ≠ .ow es := fun j es z => by
    unfold backL at z
    split at z <;> cases z
  have ow' : ∀ (j : Nat) (es : List D), (restL ℓ ℓ2 vs)[j]? = some (.ow es) → ℓ2[j]? = some (.ow es) ∧ (L2.wipe σ vs)[j]? = σ[j]? := fun j es q => by
    rcases split j _ q with ⟨_, h1, h2⟩ | h
    · exact ⟨h1, h2⟩
    · exact absurd h.symm (nback j es)
  refine ⟨I2.sub, I2.ent, I2.old, I2.ge, by rw [rest_length]; exact hl2, fun j d q => ?_, fun j es q => ?_, fun j k a es fs q1 q2 z1 z2 => ?_, fun j q => ?_, I2.xr⟩
  · rcases split j _ q with ⟨_, h1, h2⟩ | h
    · rw [← h2]; exact I2.im j d h1
    · unfold backL at h
      split at h
      · rename_i d' e
        cases h
        obtain ⟨v, g1, g2⟩ := I.im j d e
        exact ⟨v, g1, dp_mono s g2⟩
      · cases h
  · obtain ⟨h1, h2⟩ := ow' j es q
    rw [← h2]; exact I2.ow j es h1
  · obtain ⟨h1, h2⟩ := ow' j es q1
    obtain ⟨h3, h4⟩ := ow' k fs q2
    exact I2.dis j k a es fs h1 h3 (by rw [h2]; exact z1) (by rw [h4]; exact z2)
  · rcases split j _ q with ⟨_, h1, h2⟩ | h
    · rw [← h2]; exact I2.xs j h1
    · unfold backL at h
      split at h <;> cases h
/-- a list at D is guarded -/
abbrev DC.guard (c : DC) (D : Addr) (vs : List V) : DC := { c with H0 := upd c.H0 D (.lst vs) }
theorem DI.guard {D : Addr} {vs : List V} (I : DI c F H σ ℓ) (hF : F D = none) (h0 : c.H0 D = none) (hH : H D = some (.lst vs)) (hn : ∀ (i : Nat) (es : List DL.D), ℓ[i]? = some (.ow es) → σ[i]? ≠ some (some (.ref D))) : DI (c.guard D vs) F H σ ℓ where
  sub := I.sub
  ent := same_updF I.ent hH
  old := fun a o e => by
    rcases I.old a o e with h | h
    · exact .inl h
    · right
      have ne : a ≠ D := fun z => by subst z; rw [hF] at e; cases e
      show upd c.H0 D (.lst vs) a = none
      rw [upd_ne ne]; exact h
  ge := I.ge
  len := I.len
  im := I.im
  ow := fun i ds e => by
    obtain ⟨a, us, h1, h2, h3, h4, h5⟩ := I.ow i ds e
    have ne : a ≠ D := fun z => by subst z; exact hn i ds e h1
    exact ⟨a, us, h1, h2, by show upd c.H0 D (.lst vs) a = none; rw [upd_ne ne]; exact h3, h4, h5⟩
  dis := I.dis
  xs := I.xs
  xr := I.xr
theorem DI.unguard {D : Addr} {vs : List V} (I : DI (c.guard D vs) F H σ ℓ) (h0 : c.H0 D = none) (hF0 : c.F0 D = none) : DI c F H σ ℓ ∧ F D = none ∧ H D = some (.lst vs) ∧ ∀ (i : Nat) (es : List DL.D), ℓ[i]? = some (.ow es) → σ[i]? ≠ some (some (.ref D)) := by
  have hg : Same c.H0 (upd c.H0 D (.lst vs)) := same_self h0
  have hD : F D = none := by
    cases q : F D with
    | none => rfl
    | some o =>
      rcases I.old D o q with h | h
      · rw [show c.F0 D = some o from h] at hF0; cases hF0
      · have h' : upd c.H0 D (.lst vs) D = none := h
        rw [upd_same] at h'; cases h'
  refine ⟨⟨I.sub, hg.trans I.ent, fun a o e => ?_, I.ge, I.len, I.im, fun i ds e => ?_, I.dis, I.xs, I.xr⟩, hD, I.ent D _ upd_same, fun i es e z => ?_⟩
  · rcases I.old a o e with h | h
    · exact .inl h
    · exact .inr (hg.free h)
  · obtain ⟨a, us, h1, h2, h3, h4, h5⟩ := I.ow i ds e
    exact ⟨a, us, h1, h2, hg.free h3, h4, h5⟩
  · obtain ⟨a, us, h1, h2, h3, h4, h5⟩ := I.ow i es e
    rw [z] at h1; cases h1
    have h3' : upd c.H0 D (.lst vs) D = none := h3
    rw [upd_same] at h3'; cases h3'
/-- an element of a comprehension: whatever is guarded -/
def liftX (K : PySem.W.Frag) (mg : Str → Option Value) (xq : Option XQ) (t : CE) : TE := fun σ H Q => ∃ F0 H0, lift ⟨K, mg, F0, H0, xq⟩ (fun _ _ _ _ => False) t σ H Q
def liftTX (K : PySem.W.Frag) (mg : Str → Option Value) (xq : Option XQ) (t : CT) : TT := fun σ H Q => ∃ F0 H0, liftT ⟨K, mg, F0, H0, xq⟩ (fun _ _ _ _ => False) t σ H Q
def liftGX (K : PySem.W.Frag) (mg : Str → Option Value) (xq : Option XQ) (p : Pat) : TG := fun v σ H Q => ∃ F0 H0, liftG ⟨K, mg, F0, H0, xq⟩ p v σ H Q
theorem DI.updD {D : Addr} {o : HO} (I : DI c F H σ ℓ) (hX : ∀ fs, H D ≠ some (.xd fs)) (hF : F D = none) (h0 : c.H0 D = none) (hn : ∀ (i : Nat) (es : List DL.D), ℓ[i]? = some (.ow es) → σ[i]? ≠ some (some (.ref D))) : DI c F (upd H D o) σ ℓ where
  sub := fun a u e => by
    have ne : a ≠ D := fun z => by subst z; rw [hF] at e; cases e
    rw [upd_ne ne]; exact I.sub a u e
  ent := fun a u e => by
    have ne : a ≠ D := fun z => by subst z; rw [h0] at e; cases e
    rw [upd_ne ne]; exact I.ent a u e
  old := I.old
  ge := I.ge
  len := I.len
  im := I.im
  ow := fun i ds e => by
    obtain ⟨a, us, h1, h2, h3, h4, h5⟩ := I.ow i ds e
    have ne : a ≠ D := fun z => by subst z; exact hn i ds e h1
    exact ⟨a, us, h1, h2, h3, by rw [upd_ne ne]; exact h4, h5⟩
  dis := I.dis
  xs := I.xs
  xr := fun q e => (I.xr q e).mono (Same.refl _) fun a fs z => by
    have ne : a ≠ D := fun y => by subst y; exact hX fs z
    rw [upd_ne ne]; exact z
theorem lift_dlc {src : CI} {p : Pat} {vs : List Nat} {q : CT} {t : CE} {Q : VK} (hp : ∀ j ∈ p.slots, j ∈ vs) (h : lift c Wx (dlc src p vs q t) σ H Q) :
    tLc (liftI c Wx src) (liftGX c.K c.mg c.xq p) (liftTX c.K c.mg c.xq q) (liftX c.K c.mg c.xq t) vs σ H Q := by
  obtain ⟨F, ℓ, I, p0⟩ := h
  refine ⟨F, ℓ, I, ?_⟩
  unfold dlc at p0
  cases e : src ℓ with
  | none => rw [e] at p0; exact p0
  | some r =>
    rw [e] at p0
    cases r with
    | ex x l => exact p0
    | ok ds l =>
      intro J F1 H1 I1 s1 S D hD
      simp only at p0
      cases e2 : dlcL p vs q t ds (wipeL l vs) [] with
      | none => simp only [e2] at p0; exact p0.elim
      | some r =>
        obtain ⟨accE, ℓE⟩ := r
        simp only [e2] at p0
        have hF1 : F1 D = none := not_frozen I1.sub hD
        have h01 : c.H0 D = none := I1.ent.free hD
        have hF0 : c.F0 D = none := I1.ge.free hF1
        have noOw : ∀ (i : Nat) (es : List DL.D), (wipeL l vs)[i]? = some (.ow es) → (L2.wipe σ vs)[i]? ≠ some (some (.ref D)) := fun i es z1 z2 => by
          obtain ⟨b, us, g1, g2, g3, g4, g5⟩ := (I1.wipe vs).ow i es z1
          rw [z2] at g1; cases g1
          rw [hD] at g4; cases g4
        have noOw1 : ∀ (i : Nat) (es : List DL.D), l[i]? = some (.ow es) → σ[i]? ≠ some (some (.ref D)) := fun i es z1 z2 => by
          obtain ⟨b, us, g1, g2, g3, g4, g5⟩ := I1.ow i es z1
          rw [z2] at g1; cases g1
          rw [hD] at g4; cases g4
        -- what stands between two turns
        have keep : ∀ {F' H' : Hp} {ℓ' : LS} {us : List V}, DI (c.guard D us) F' H' (L2.wipe σ vs) ℓ' → ∀ {v : V}, DI (c.guard D (us ++ [v])) F' (upd H' D (.lst (us ++ [v]))) (L2.wipe σ vs) ℓ' := fun {F' H' ℓ' us} J' {v} => by
          obtain ⟨J1, n, hl, no⟩ := J'.unguard h01 hF0
          exact (J1.updD (fun fs z => by rw [hl] at z; cases z) n h01 no).guard n h01 upd_same no
        refine ⟨fun i m H' => m = ds.length - i ∧ i ≤ ds.length ∧ ∃ F' ℓ' acc us, DI (c.guard D us) F' H' (L2.wipe σ vs) ℓ' ∧ Same F1 F' ∧ RpAll c.K F' us acc ∧ dlcL p vs q t (ds.drop i) ℓ' acc = some (accE, ℓE),
          ⟨_, rfl, Nat.zero_le _, F1, wipeL l vs, [], [], ((I1.wipe vs).new hD).guard hF1 h01 upd_same noOw, Same.refl _, .nil, e2⟩, ?_⟩
        rintro i m H2 ⟨rfl, hi, F2, ℓ2, acc, us, I2, s2, r2, hr⟩
        by_cases hlt : i < ds.length
        · refine .inr ⟨S.go (c.guard D us) i F2 H2 _ ℓ2 rfl hlt I2 s2, fun H' => i + 1 ≤ ds.length ∧ ∃ F' ℓ' acc us, DI (c.guard D us) F' H' (L2.wipe σ vs) ℓ' ∧ Same F1 F' ∧ RpAll c.K F' us acc ∧ dlcL p vs q t (ds.drop (i + 1)) ℓ' acc = some (accE, ℓE),
            fun H' w => ⟨ds.length - (i + 1), by omega, rfl, w.1, w.2⟩, fun x H3 y => ?_⟩
          obtain ⟨d, hd, hdr⟩ := drop_get hlt
          obtain ⟨sH, F3, I3, s3, r3⟩ := S.yl (c.guard D us) i d F2 H2 _ ℓ2 x H3 rfl hd I2 s2 y
          rw [hdr] at hr
          unfold dlcL at hr
          cases q1 : bindP p d ℓ2 with
          | none => simp only [q1] at hr; cases hr
          | some l1 =>
            simp only [q1] at hr
            refine ⟨c.F0, upd c.H0 D (.lst us), F3, ℓ2, d, l1, I3, r3, q1, fun σ4 F4 H4 I4 s4 off => ?_⟩
            have ew : L2.wipe σ4 vs = L2.wipe σ vs := wipe_off off hp
            refine ⟨ew, c.F0, upd c.H0 D (.lst us), F4, l1, I4, ?_⟩
            cases q2 : q l1 with
            | none => simp only [q2] at hr; cases hr
            | some rb =>
              cases rb with
              | ex x l2 => simp only [q2] at hr; cases hr
              | ok b l2 =>
                intro F5 H5 I5 s5
                cases b with
                | false =>
                  simp only [q2] at hr
                  have I6 := I5.wipe vs
                  rw [ew] at I6
                  exact ⟨by omega, F5, wipeL l2 vs, acc, us, I6, (s2.trans (s3.trans s4)).trans s5, dpAll_mono ((s3.trans s4).trans s5) r2, hr⟩
                | true =>
                  simp only [q2] at hr
                  refine ⟨c.F0, upd c.H0 D (.lst us), lift_arg ⟨F5, l2, I5, ?_⟩⟩
                  cases q3 : arg t l2 with
                  | none => simp only [q3] at hr; cases hr
                  | some rw3 =>
                    cases rw3 with
                    | ex x l3 => simp only [q3] at hr; cases hr
                    | ok w l3 =>
                      simp only [q3] at hr
                      intro v F6 H6 I6 s6 wr
                      cases q4 : keepW l3 w with
                      | none => simp only [q4] at hr; cases hr
                      | some dl =>
                        obtain ⟨x, l4⟩ := dl
                        simp only [q4] at hr
                        obtain ⟨F7, I7, s7, r7⟩ := keep_dp I6 (wr.wa (arg_nofr q3)) q4
                        split at hr
                        · rename_i hz
                          have I8 := I7.wipe vs
                          rw [ew] at I8
                          have sall := (((s3.trans s4).trans s5).trans s6).trans s7
                          obtain ⟨J1, n, hl, no⟩ := I8.unguard h01 hF0
                          exact ⟨us, hl, by rw [dpAll_len r2, sizeLine_num]; exact hz, by omega, F7, wipeL l4 vs, acc ++ [x], us ++ [v], keep I8, s2.trans sall, dpAll_app (dpAll_mono sall r2) (.cons r7 .nil), hr⟩
                        · cases hr
        · have ei : i = ds.length := by omega
          subst ei
          rw [List.drop_length] at hr
          unfold dlcL at hr
          cases hr
          obtain ⟨I2', n2, hl2, no2⟩ := I2.unguard h01 hF0
          refine .inl ⟨S.st (c.guard D us) F2 H2 _ _ rfl I2 s2, ?_⟩
          have I4 := I1.rest I2' s2
          refine p0 (.ref D) F2 H2 I4 (s1.trans s2) ⟨D, us, rfl, n2, h01, hl2, r2, fun i es z1 z2 => ?_⟩
          obtain ⟨b, us2, g1, g2, g3, g4, g5⟩ := I4.ow i es z1
          rw [z2] at g1; cases g1
          by_cases hv : i ∈ vs
          · have hlt : i < ℓE.length := by have := (List.getElem?_eq_some_iff.mp z1).1; rw [rest_length] at this; exact this
            rw [rest_in l ℓE i hlt vs hv] at z1
            unfold backL at z1
            split at z1 <;> cases z1
          · rw [rest_get l ℓE i vs hv] at z1
            exact no2 i es z1 (by rw [wipe_get _ _ _ hv]; exact z2)
end
section
variable {X : Cx} {B : Fr0} {elt tg iter : Expr} {ifs : List Expr} {scope : Scope} {own : List (Str × Nat)} {src : CI} {p : Pat} {q : CT} {t : CE} {pos : Pos}
theorem peX {e : Expr} {xq : Option XQ} (h : ∀ F0 H0, PE X e (lift ⟨X.K, X.mg, F0, H0, xq⟩ (fun _ _ _ _ => False) t)) : PE X e (liftX X.K X.mg xq t) := ⟨fun pins s σ H Q I ⟨F0, H0, w⟩ => (h F0 H0).run pins s σ H Q I w⟩
theorem pgX {xq : Option XQ} (h : ∀ F0 H0, PG X tg (liftG ⟨X.K, X.mg, F0, H0, xq⟩ p)) : PG X tg (liftGX X.K X.mg xq p) := ⟨fun pins s σ H v u Q I r ⟨F0, H0, w⟩ => (h F0 H0).run pins s σ H v u Q I r w⟩
abbrev B0 (xq : Option XQ) (F0 H0 : Hp) : Fr0 := ⟨F0, H0, fun _ _ _ _ => False, xq⟩
/-- a clause's tests -/
def DTs (X : Cx) (xq : Option XQ) (ifs : List Expr) (q : CT) : Prop := PTs X ifs (liftTX X.K X.mg xq q)
theorem dts_nil {xq : Option XQ} : DTs X xq [] (dyes true) := ⟨fun pins s σ H Q I ⟨F0, H0, w⟩ => pts_nil.run pins s σ H Q I (by
  obtain ⟨F, ℓ, I, p⟩ := w
  exact p F H I (Same.refl _))⟩
theorem dts_one {xq : Option XQ} {x : Expr} (h : ∀ F0 H0, DT X (B0 xq F0 H0) x q) : DTs X xq [x] q := ⟨fun pins s σ H Q I ⟨F0, H0, w⟩ => (pts_one (h F0 H0)).run pins s σ H Q I w⟩
theorem de_lc (hc : X.calm = true) (hN : X.N.Nodup) (hi : DIt X B tg iter src) (ok : BlkOk X.N X.env.scope scope own) (hp : ∀ j ∈ p.slots, j ∈ own.map (·.2))
    (hg : ∀ (s : Shared) (H : Hp) (C : Addr) (cl : List (Str × Addr)) (fp : List Addr) (F0 H0 : Hp), DG (X.blk s H scope (compEnvC scope cl C X.env) fp) (B0 B.xq F0 H0) tg p)
    (ht : ∀ (s : Shared) (H : Hp) (C : Addr) (cl : List (Str × Addr)) (fp : List Addr), DTs (X.blk s H scope (compEnvC scope cl C X.env) fp) B.xq ifs q)
    (he : ∀ (s : Shared) (H : Hp) (C : Addr) (cl : List (Str × Addr)) (fp : List Addr) (F0 H0 : Hp), DE (X.blk s H scope (compEnvC scope cl C X.env) fp) (B0 B.xq F0 H0) elt t)
    (hs : ∀ x, foldedSetIterable iter X.env x = pure x := by intro _; rfl) : DE X B (.ListComp elt [⟨tg, iter, ifs, 0⟩] scope pos) (dlc src p (own.map (·.2)) q t) :=
  peImp (pe_lc hc hN hi ok (fun s H C cl fp => pgX fun F0 H0 => hg s H C cl fp F0 H0) (fun s H C cl fp => (show PTs _ _ (liftTX X.K X.mg B.xq q) from ht s H C cl fp)) (fun s H C cl fp => peX fun F0 H0 => he s H C cl fp F0 H0) hs) fun _ _ _ h => lift_dlc hp h
theorem ds_setLc {i : Nat} {y : Str} {py spos : Pos} (hc : X.calm = true) (hN : X.N.Nodup) (hy : X.N[i]? = some y) (hyl : X.env.scope.names.lookup y = some .local)
    (hsw : swapsWith (.ListComp elt [⟨tg, iter, ifs, 0⟩] scope pos) (some (.Name y py)) spos.line X.env = pure true) (hi : DIt X B tg iter src) (ok : BlkOk X.N X.env.scope scope own) (hp : ∀ j ∈ p.slots, j ∈ own.map (·.2))
    (hg : ∀ (s : Shared) (H : Hp) (C : Addr) (cl : List (Str × Addr)) (fp : List Addr) (F0 H0 : Hp), DG (X.blk s H scope (compEnvC scope cl C X.env) fp) (B0 B.xq F0 H0) tg p)
    (ht : ∀ (s : Shared) (H : Hp) (C : Addr) (cl : List (Str × Addr)) (fp : List Addr), DTs (X.blk s H scope (compEnvC scope cl C X.env) fp) B.xq ifs q)
    (he : ∀ (s : Shared) (H : Hp) (C : Addr) (cl : List (Str × Addr)) (fp : List Addr) (F0 H0 : Hp), DE (X.blk s H scope (compEnvC scope cl C X.env) fp) (B0 B.xq F0 H0) elt t)
    (hs : ∀ x, foldedSetIterable iter X.env x = pure x := by intro _; rfl) : DS X B (.Assign [.Name y py] (.ListComp elt [⟨tg, iter, ifs, 0⟩] scope pos) spos) (dset i (dlc src p (own.map (·.2)) q t)) :=
  psImp (ps_setLc hc hN hy hyl hsw hi ok (fun s H C cl fp => pgX fun F0 H0 => hg s H C cl fp F0 H0) (fun s H C cl fp => (show PTs _ _ (liftTX X.K X.mg B.xq q) from ht s H C cl fp)) (fun s H C cl fp => peX fun F0 H0 => he s H C cl fp F0 H0) hs) fun D σ H h => by
    have h' := lift_dset h
    exact lift_dlc hp h'
end
end DL

/-! DL9: displays, subscripts, slices, builtins, methods. -/
namespace DL
open PySem PySem.Spec PyProof.Rows L2

/-! ### displays -/
def keepAll : List W → LS → Option (List D × LS)
  | ws, ℓ => match peeks ℓ ws with
    | none => none
    | some ds => match keepWs ws ℓ with
      | none => none
      | some ℓ1 => some (ds, ℓ1)
def dtup (t : CA) : CE := fun ℓ => match t ℓ with
  | none => none
  | some (.ex x ℓ1) => some (.ex x ℓ1)
  | some (.ok ws ℓ1) => match keepAll ws ℓ1 with
    | none => none
    | some (ds, ℓ2) => if ds.length ≤ 16777216 then some (.ok (.d (.tuple ds)) ℓ2) else none
def dlst (t : CA) : CE := fun ℓ => match t ℓ with
  | none => none
  | some (.ex x ℓ1) => some (.ex x ℓ1)
  | some (.ok ws ℓ1) => match keepAll ws ℓ1 with
    | none => none
    | some (ds, ℓ2) => if ds.length ≤ 16777216 then some (.ok (.fr ds) ℓ2) else none
section
variable {c : DC} {F F' H H' F1 H1 : Hp} {σ : L2.St} {ℓ ℓ' ℓ1 : LS} {Wx : WX}
theorem keepAll_dp {ws : List W} {vs : List V} {ds : List D} (I : DI c F H σ ℓ) (h : WAs c F σ ws vs) (e : keepAll ws ℓ = some (ds, ℓ')) : ∃ F', DI c F' H σ ℓ' ∧ Same F F' ∧ RpAll c.K F' vs ds := by
  unfold keepAll at e
  cases e1 : peeks ℓ ws with
  | none => simp only [e1] at e; cases e
  | some ds' =>
    simp only [e1] at e
    cases e2 : keepWs ws ℓ with
    | none => simp only [e2] at e; cases e
    | some l =>
      simp only [e2] at e
      cases e
      exact keeps_dp I h e1 e2
theorem lift_dtup {t : CA} {Q : VK} (h : lift c Wx (dtup t) σ H Q) : tTup (liftA c Wx t) σ H Q := by
  obtain ⟨F, ℓ, I, p⟩ := h
  refine ⟨F, ℓ, I, ?_⟩
  unfold dtup at p
  cases e : t ℓ with
  | none => rw [e] at p; exact p
  | some r =>
    rw [e] at p
    cases r with
    | ex x l => exact p
    | ok ws l =>
      intro vs F1 H1 I1 s1 wa
      cases q : keepAll ws l with
      | none => simp only [q] at p; exact p.elim
      | some dl =>
        obtain ⟨ds, l2⟩ := dl
        simp only [q] at p
        obtain ⟨F2, I2, s2, r2⟩ := keepAll_dp I1 wa q
        by_cases hz : ds.length ≤ 16777216
        · rw [if_pos hz] at p
          exact ⟨by rw [dpAll_len r2, sizeLine_num]; exact hz, fun a ha => post_newT I2 (PostE.mono (s1.trans s2) p) r2 ha⟩
        · rw [if_neg hz] at p; exact p.elim
theorem lift_dlst {t : CA} {Q : VK} (h : lift c Wx (dlst t) σ H Q) : tLst (liftA c Wx t) σ H Q := by
  obtain ⟨F, ℓ, I, p⟩ := h
  refine ⟨F, ℓ, I, ?_⟩
  unfold dlst at p
  cases e : t ℓ with
  | none => rw [e] at p; exact p
  | some r =>
    rw [e] at p
    cases r with
    | ex x l => exact p
    | ok ws l =>
      intro vs F1 H1 I1 s1 wa
      cases q : keepAll ws l with
      | none => simp only [q] at p; exact p.elim
      | some dl =>
        obtain ⟨ds, l2⟩ := dl
        simp only [q] at p
        obtain ⟨F2, I2, s2, r2⟩ := keepAll_dp I1 wa q
        by_cases hz : ds.length ≤ 16777216
        · rw [if_pos hz] at p
          exact ⟨by rw [dpAll_len r2, sizeLine_num]; exact hz, fun a ha => post_newL I2 (PostE.mono (s1.trans s2) p) r2 ha⟩
        · rw [if_neg hz] at p; exact p.elim
end
section
variable {X : Cx} {B : Fr0} {es : List Expr} {t : CA} {pos : Pos}
theorem de_tup {k} (h : DA X B es t) : DE X B (.Tuple es k pos) (dtup t) := peImp (pe_tup h) fun _ _ _ q => lift_dtup q
theorem de_lst (h : DA X B es t) : DE X B (.List es pos) (dlst t) := peImp (pe_lst h) fun _ _ _ q => lift_dlst q
end

/-! ### subscripts -/
def fIx : D → D → Option W
  | .list ds, .int i => (atI ds i).map .d
  | .tuple ds, .int i => (atI ds i).map .d
  | .str z, .int i => if z.length ≤ 16777216 then (atI z.cps.toList i).map fun c => .d (.str ⟨#[c]⟩) else none
  | _, _ => none
theorem atI_rp {K : PySem.W.Frag} {F : Hp} {vs : List V} {ds : List D} {i : Int} {d : D} (h : RpAll K F vs ds) (e : atI ds i = some d) : ∃ v, atI vs i = some v ∧ Rp K F v d := by
  unfold atI at e ⊢
  rw [dpAll_len h]
  cases q : ixN ds.length i with
  | none => rw [q] at e; cases e
  | some j =>
    rw [q] at e
    exact dpAll_get h e
section
variable {X : Cx} {B : Fr0} {a b e : Expr} {ta tb : CE} {pos : Pos}
theorem de_ix (ha : DE X B a ta) (hb : DE X B b tb) (hs : PlainIx b := by intro _ _; rfl) : DE X B (.Subscript a b pos) (d2 fIx ta tb) := by
  refine peImp (pe_ix ix_seq ha hb hs) fun σ H Q h => lift_d2 (fun F H ℓ wa wb u v x y w Q I a1 a2 e1 e2 e3 p => ?_) h
  have hz := sizeLine_num
  unfold fIx at e3
  split at e3
  · obtain ⟨d, e4, e5⟩ := Option.map_eq_some_iff.mp e3
    subst e5
    obtain ⟨p1, vs, rfl, q1, r1⟩ := peek_lst I a1 e1
    obtain ⟨v', e6, r6⟩ := atI_rp r1 e4
    rw [dp_int (peek_dp I a2 e2)]
    exact .inl ⟨p1, vs, _, v', rfl, rfl, q1, e6, post_d I p r6⟩
  · obtain ⟨d, e4, e5⟩ := Option.map_eq_some_iff.mp e3
    subst e5
    obtain ⟨p1, vs, rfl, q1, r1⟩ := peek_tup I a1 e1
    obtain ⟨v', e6, r6⟩ := atI_rp r1 e4
    rw [dp_int (peek_dp I a2 e2)]
    exact .inr (.inl ⟨p1, vs, _, v', rfl, rfl, q1, e6, post_d I p r6⟩)
  · split at e3
    · rename_i hl
      obtain ⟨d, e4, e5⟩ := Option.map_eq_some_iff.mp e3
      subst e5
      rw [dp_str (peek_dp I a1 e1), dp_int (peek_dp I a2 e2)]
      exact .inr (.inr ⟨_, _, d, rfl, rfl, by rw [hz]; exact hl, e4, post_str I p⟩)
    · cases e3
  · cases e3
end

/-! ### slices -/
def dpt : Option CE → (Option Int → CE) → CE
  | none, f => f none
  | some t, f => bindE (arg t) fun w ℓ => match peek ℓ w with
    | some (.int i) => f (some i) ℓ
    | _ => none
def cutD (ds : List D) (lo hi : Option Int) : List D := (ds.drop (HT.sIx ds.length 0 lo)).take (HT.sIx ds.length ds.length hi - HT.sIx ds.length 0 lo)
def fSl : D → Option Int → Option Int → Option W
  | .list ds, lo, hi => some (.fr (cutD ds lo hi))
  | .tuple ds, lo, hi => some (.d (.tuple (cutD ds lo hi)))
  | .str z, lo, hi => if z.length ≤ 16777216 then some (.d (.str (cutS z lo hi))) else none
  | _, _, _ => none
def dsl (ta : CE) (lo hi : Option CE) : CE := bindE (arg ta) fun wa => dpt lo fun l => dpt hi fun h ℓ => match peek ℓ wa with
  | some x => (match fSl x l h with
    | some w => some (.ok w ℓ)
    | none => none)
  | none => none
def tOfO (c : DC) (Wx : WX) : Option CE → TO
  | none => tNoPart
  | some t => tPart (lift c Wx t)
section
variable {c : DC} {F F' H H' F1 H1 : Hp} {σ : L2.St} {ℓ ℓ' ℓ1 : LS} {Wx : WX}
theorem pO {o : Option CE} {f : Option Int → CE} {Q : VK} {R : Option Int → Hp → Prop} (I : DI c F1 H1 σ ℓ1) (p : PostE c F1 σ (dpt o f ℓ1) Q Wx)
    (k : ∀ F2 H2 ℓ2 l, DI c F2 H2 σ ℓ2 → Same F1 F2 → PostE c F2 σ (f l ℓ2) Q Wx → R l H2) : tOfO c Wx o σ H1 R := by
  cases o with
  | none => exact k F1 H1 ℓ1 none I (Same.refl _) p
  | some t =>
    refine pbind I p fun F2 H2 ℓ2 w v I2 s2 a2 p2 => ?_
    cases e : peek ℓ2 w with
    | none => simp only [e] at p2; exact p2.elim
    | some x =>
      simp only [e] at p2
      cases x with
      | int i => exact ⟨i, dp_int (peek_dp I2 a2 e), k F2 H2 ℓ2 (some i) I2 s2 p2⟩
      | _ => exact p2.elim
theorem cut_rp {K : PySem.W.Frag} {F : Hp} {vs : List V} {ds : List D} (h : RpAll K F vs ds) (lo hi : Option Int) : RpAll K F (cutV vs lo hi) (cutD ds lo hi) := by
  unfold cutV cutD
  rw [dpAll_len h]
  exact dpAll_take _ (dpAll_drop _ h)
theorem sIx_all {α : Type} {xs : List α} {lo hi : Option Int} (h : HT.sIx xs.length 0 lo = 0 ∧ HT.sIx xs.length xs.length hi = xs.length) : (xs.drop (HT.sIx xs.length 0 lo)).take (HT.sIx xs.length xs.length hi - HT.sIx xs.length 0 lo) = xs := by
  rw [h.1, h.2]; simp
theorem lift_dsl {ta : CE} {lo hi : Option CE} {Q : VK} (h : lift c Wx (dsl ta lo hi) σ H Q) :
    tSl (fun x l u H Q => rSlL c.K x l u H Q ∨ rSlA c.K x l u H Q ∨ rSlS x l u H Q) (lift c Wx ta) (tOfO c Wx lo) (tOfO c Wx hi) σ H Q := by
  obtain ⟨F, ℓ, I, p⟩ := h
  refine pbind I p fun F1 H1 ℓ1 wa v I1 s1 a1 p1 => ?_
  refine pO I1 p1 fun F2 H2 ℓ2 l I2 s2 p2 => ?_
  refine pO I2 p2 fun F3 H3 ℓ3 u I3 s3 p3 => ?_
  have a3 := (a1.mono s2).mono s3
  have hz := sizeLine_num
  cases e : peek ℓ3 wa with
  | none => simp only [e] at p3; exact p3.elim
  | some x =>
    simp only [e] at p3
    cases x with
    | list ds =>
      obtain ⟨p1, vs, rfl, q1, r1⟩ := peek_lst I3 a3 e
      exact .inl ⟨p1, vs, rfl, q1, fun b hb => post_newL I3 p3 (cut_rp r1 l u) hb⟩
    | tuple ds =>
      obtain ⟨ad, vs, rfl, q1, r1⟩ := peek_tup I3 a3 e
      refine .inr (.inl ⟨ad, vs, rfl, q1, fun z => ?_, fun z b hb => post_newT I3 p3 (cut_rp r1 l u) hb⟩)
      have hl := dpAll_len r1
      have hc : cutD ds l u = ds := by unfold cutD; exact sIx_all (by rw [← hl]; exact z)
      simp only [fSl, hc] at p3
      -- the whole: itself
      cases wa with
      | d d' =>
        cases e
        exact post_d I3 p3 a3
      | o i =>
        have hh := a3
        unfold peek at e
        cases q : ℓ3[i]? with
        | none => simp [q] at e
        | some y =>
          cases y with
          | un => simp [q] at e
          | xc => simp [q] at e
          | im d' =>
            simp [q] at e; subst e
            obtain ⟨w, h1, h2⟩ := I3.im i _ q
            rw [show σ[i]? = some (some (.ref ad)) from a3] at h1; cases h1
            exact post_d I3 p3 h2
          | ow ds' => simp [q] at e
      | fr ds' => exact a3.elim
    | str z =>
      simp only [fSl] at p3
      split at p3
      · rename_i w hw
        split at hw
        · rename_i hl
          cases hw
          exact .inr (.inr ⟨z, dp_str (peek_dp I3 a3 e), by rw [hz]; exact hl, post_str I3 p3⟩)
        · cases hw
      · exact p3.elim
    | none => exact p3.elim
    | bool b => exact p3.elim
    | int b => exact p3.elim
    | dict b => exact p3.elim
end
section
variable {X : Cx} {B : Fr0} {a e : Expr} {lo hi : Option Expr} {ta t : CE} {tl th : Option CE} {pos p2 : Pos}
abbrev DO (X : Cx) (B : Fr0) (e : Option Expr) (t : Option CE) : Prop := PO X e (tOfO (cX X B) B.W t)
theorem do_none : DO X B none none := po_none
theorem do_some (h : DE X B e t) : DO X B (some e) (some t) := po_some h
theorem de_sl (he : DE X B a ta) (hl : DO X B lo tl) (hu : DO X B hi th) : DE X B (.Subscript a (.Slice lo hi none p2) pos) (dsl ta tl th) :=
  peImp (pe_slice (sl_list.or (sl_tupA.or sl_str)) he hl hu) fun _ _ _ h => lift_dsl h
end

/-! ### builtins called -/
def dbi (f : List D → Option W) (t : CA) : CE := fun ℓ => match t ℓ with
  | none => none
  | some (.ex x ℓ1) => some (.ex x ℓ1)
  | some (.ok ws ℓ1) => match peeks ℓ1 ws with
    | none => none
    | some ds => match f ds with
      | none => none
      | some w => some (.ok w ℓ1)
section
variable {c : DC} {F F' H H' F1 H1 : Hp} {σ : L2.St} {ℓ ℓ' ℓ1 : LS} {Wx : WX}
theorem lift_dbi {f : List D → Option W} {t : CA} {r : List V → Hp → VK → Prop} {Q : VK}
    (hr : ∀ F H ℓ ws vs ds w, DI c F H σ ℓ → WAs c F σ ws vs → peeks ℓ ws = some ds → f ds = some w → PostE c F σ (some (.ok w ℓ)) Q Wx → r vs H Q)
    (h : lift c Wx (dbi f t) σ H Q) : tCB r (liftA c Wx t) σ H Q := by
  obtain ⟨F, ℓ, I, p⟩ := h
  refine ⟨F, ℓ, I, ?_⟩
  unfold dbi at p
  cases e : t ℓ with
  | none => rw [e] at p; exact p
  | some r =>
    rw [e] at p
    cases r with
    | ex x l => exact p
    | ok ws l =>
      intro vs F1 H1 I1 s1 wa
      cases q : peeks l ws with
      | none => simp only [q] at p; exact p.elim
      | some ds =>
        simp only [q] at p
        cases q2 : f ds with
        | none => simp only [q2] at p; exact p.elim
        | some w =>
          simp only [q2] at p
          exact hr F1 H1 l ws vs ds w I1 wa q q2 (PostE.mono s1 p)
theorem peeks1 {ws : List W} {vs : List V} {d : D} (h : WAs c F σ ws vs) (e : peeks ℓ ws = some [d]) : ∃ w v, ws = [w] ∧ vs = [v] ∧ WA c F σ w v ∧ peek ℓ w = some d := by
  cases ws with
  | nil => cases e
  | cons w ws =>
    unfold peeks at e
    cases e1 : peek ℓ w with
    | none => rw [e1] at e; cases e
    | some d' =>
      rw [e1] at e
      cases e2 : peeks ℓ ws with
      | none => simp only [e2] at e; cases e
      | some es =>
        simp only [e2] at e
        cases e
        cases ws with
        | cons w' ws' =>
          unfold peeks at e2
          cases q1 : peek ℓ w' with
          | none => rw [q1] at e2; cases e2
          | some d'' =>
            rw [q1] at e2
            cases q2 : peeks ℓ ws' with
            | none => simp only [q2] at e2; cases e2
            | some _ => simp only [q2] at e2; cases e2
        | nil =>
          cases vs with
          | nil => exact h.elim
          | cons v vs =>
            cases vs with
            | cons _ _ => exact h.2.elim
            | nil => exact ⟨w, v, rfl, rfl, h.1, e1⟩
end
def allI : List D → Option (List Int)
  | [] => some []
  | .int i :: ds => (allI ds).map (i :: ·)
  | _ => none
def allB : List D → Option (List Bool)
  | [] => some []
  | .bool i :: ds => (allB ds).map (i :: ·)
  | _ => none
def allS : List D → Option (List Str)
  | [] => some []
  | .str i :: ds => (allS ds).map (i :: ·)
  | _ => none
section
variable {K : PySem.W.Frag} {F : Hp}
theorem allI_v : ∀ {ds : List D} {vs : List V} {ns : List Int}, RpAll K F vs ds → allI ds = some ns → vs = ns.map V.int
  | [], _, _, .nil, e => by cases e; rfl
  | d :: ds, _, ns, .cons h t, e => by
    cases d with
    | int i =>
      obtain ⟨ms, e1, e2⟩ := Option.map_eq_some_iff.mp (show (allI ds).map (i :: ·) = some ns from e)
      subst e2
      rw [List.map_cons, dp_int h, allI_v t e1]
    | _ => cases e
theorem allB_v : ∀ {ds : List D} {vs : List V} {ns : List Bool}, RpAll K F vs ds → allB ds = some ns → vs = ns.map V.bl
  | [], _, _, .nil, e => by cases e; rfl
  | d :: ds, _, ns, .cons h t, e => by
    cases d with
    | bool i =>
      obtain ⟨ms, e1, e2⟩ := Option.map_eq_some_iff.mp (show (allB ds).map (i :: ·) = some ns from e)
      subst e2
      rw [List.map_cons, dp_bool h, allB_v t e1]
    | _ => cases e
theorem allS_v : ∀ {ds : List D} {vs : List V} {ns : List Str}, RpAll K F vs ds → allS ds = some ns → vs = ns.map V.str
  | [], _, _, .nil, e => by cases e; rfl
  | d :: ds, _, ns, .cons h t, e => by
    cases d with
    | str i =>
      obtain ⟨ms, e1, e2⟩ := Option.map_eq_some_iff.mp (show (allS ds).map (i :: ·) = some ns from e)
      subst e2
      rw [List.map_cons, dp_str h, allS_v t e1]
    | _ => cases e
theorem rpInts : ∀ (ns : List Int), RpAll K F (ns.map V.int) (ns.map .int)
  | [] => .nil
  | n :: ns => .cons (.int n) (rpInts ns)
theorem rpStrs : ∀ (ns : List Str), RpAll K F (ns.map V.str) (ns.map .str)
  | [] => .nil
  | n :: ns => .cons (.str n) (rpStrs ns)
end
def fLen : List D → Option W
  | [.list ds] => some (.d (.int ds.length))
  | [.tuple ds] => some (.d (.int ds.length))
  | [.str z] => if z.length ≤ 16777216 then some (.d (.int z.length)) else none
  | _ => none
def fAbs : List D → Option W
  | [.int i] => some (.d (.int (if i < 0 then -i else i)))
  | _ => none
def fInt : List D → Option W
  | [.int i] => some (.d (.int i))
  | [.bool b] => some (.d (.int (if b then 1 else 0)))
  | [.str a] => if a.length ≤ 640 then (PySem.intText? a).map fun n => .d (.int n) else none
  | _ => none
def fStr : List D → Option W
  | [.int i] => if i.natAbs.log2 < 1920 then some (.d (.str (toString i))) else none
  | [.str a] => some (.d (.str a))
  | _ => none
def fSum : List D → Option W
  | [.list ds] => (allI ds).map fun ns => .d (.int ns.sum)
  | _ => none
def fAll : List D → Option W
  | [.list ds] => (allB ds).map fun bs => .d (.bool (bs.all id))
  | _ => none
def fAny : List D → Option W
  | [.list ds] => (allB ds).map fun bs => .d (.bool (bs.any id))
  | _ => none
def fList : List D → Option W
  | [.list ds] => some (.fr ds)
  | [.tuple ds] => some (.fr ds)
  | _ => none
def fTuple : List D → Option W
  | [.list ds] => some (.d (.tuple ds))
  | _ => none
def fMin2 : List D → Option W
  | [.int i, .int j] => some (.d (.int (if j < i then j else i)))
  | _ => none
def fMax2 : List D → Option W
  | [.int i, .int j] => some (.d (.int (if j > i then j else i)))
  | _ => none
section
variable {X : Cx} {B : Fr0} {e : Expr} {es : List Expr} {t : CA} {x : Str} {p pos : Pos} {id T : String} {r : List V → Hp → VK → Prop} {f : List D → Option W}
theorem de_blt (hc : CallR X (.builtin id) r) (hv : bootBuiltins x = some (.builtin id)) (hg : Gl X x) (hm : X.mg x = none) (ha : DA X B (e :: es) t)
    (hr : ∀ σ Q F H ℓ ws vs ds w, DI (cX X B) F H σ ℓ → WAs (cX X B) F σ ws vs → peeks ℓ ws = some ds → f ds = some w → PostE (cX X B) F σ (some (.ok w ℓ)) Q B.W → r vs H Q)
    (hn : x ≠ "__name__" := by decide) (hdb : (x == ("__debug__" : Str)) = false := by decide)
    (he : starEach (e :: es) X.env = (false, eval e X.env) :: starEach es X.env := by rfl) (hpl : (backTo pos (starEach es X.env)).any (·.1) = false := by rfl) : DE X B (.Call (.Name x p) (e :: es) [] pos) (dbi f t) :=
  peImp (pe_callB hc hg hm hv ha hn hdb he hpl) fun σ H Q h => lift_dbi (hr σ Q) h
theorem de_blty (hc : CallR X (.type T) r) (hv : bootBuiltins x = some (.type T)) (hg : Gl X x) (hm : X.mg x = none) (ha : DA X B (e :: es) t)
    (hr : ∀ σ Q F H ℓ ws vs ds w, DI (cX X B) F H σ ℓ → WAs (cX X B) F σ ws vs → peeks ℓ ws = some ds → f ds = some w → PostE (cX X B) F σ (some (.ok w ℓ)) Q B.W → r vs H Q)
    (hn : x ≠ "__name__" := by decide) (hdb : (x == ("__debug__" : Str)) = false := by decide)
    (he : starEach (e :: es) X.env = (false, eval e X.env) :: starEach es X.env := by rfl) (hpl : (backTo pos (starEach es X.env)).any (·.1) = false := by rfl) : DE X B (.Call (.Name x p) (e :: es) [] pos) (dbi f t) :=
  peImp (pe_callTy hc hg hm hv ha hn hdb he hpl) fun σ H Q h => lift_dbi (hr σ Q) h
end
section
variable {X : Cx} {B : Fr0} {e a b : Expr} {ta tb : CE} {p pos : Pos}
theorem de_len (hg : Gl X "len") (hm : X.mg "len" = none) (ha : DE X B e ta) (he : starEach [e] X.env = (false, eval e X.env) :: starEach [] X.env := by rfl) : DE X B (.Call (.Name "len" p) [e] [] pos) (dbi fLen (dcons ta dnil)) := by
  refine de_blt (call_len_seq.or call_len_str) rfl hg hm (da_cons ha da_nil he) (fun σ Q F H ℓ ws vs ds w I wa e1 e2 q => ?_) (he := he)
  have hz := sizeLine_num
  unfold fLen at e2
  split at e2
  · cases e2
    obtain ⟨w, v, rfl, rfl, a1, e3⟩ := peeks1 wa e1
    obtain ⟨p1, vs, rfl, q1, r1⟩ := peek_lst I a1 e3
    refine .inl ⟨p1, vs, rfl, .inl q1, ?_⟩
    rw [dpAll_len r1]
    exact post_int I q
  · cases e2
    obtain ⟨w, v, rfl, rfl, a1, e3⟩ := peeks1 wa e1
    obtain ⟨p1, vs, rfl, q1, r1⟩ := peek_tup I a1 e3
    refine .inl ⟨p1, vs, rfl, .inr q1, ?_⟩
    rw [dpAll_len r1]
    exact post_int I q
  · split at e2
    · rename_i hl
      cases e2
      obtain ⟨w, v, rfl, rfl, a1, e3⟩ := peeks1 wa e1
      exact .inr ⟨_, by rw [dp_str (peek_dp I a1 e3)], by rw [hz]; exact hl, post_int I q⟩
    · cases e2
  · cases e2
theorem de_abs (hg : Gl X "abs") (hm : X.mg "abs" = none) (ha : DE X B e ta) (he : starEach [e] X.env = (false, eval e X.env) :: starEach [] X.env := by rfl) : DE X B (.Call (.Name "abs" p) [e] [] pos) (dbi fAbs (dcons ta dnil)) := by
  refine de_blt call_abs rfl hg hm (da_cons ha da_nil he) (fun σ Q F H ℓ ws vs ds w I wa e1 e2 q => ?_) (he := he)
  unfold fAbs at e2
  split at e2
  · cases e2
    obtain ⟨w, v, rfl, rfl, a1, e3⟩ := peeks1 wa e1
    exact ⟨_, by rw [dp_int (peek_dp I a1 e3)], post_int I q⟩
  · cases e2
theorem de_intT (hg : Gl X "int") (hm : X.mg "int" = none) (ha : DE X B e ta) (he : starEach [e] X.env = (false, eval e X.env) :: starEach [] X.env := by rfl) : DE X B (.Call (.Name "int" p) [e] [] pos) (dbi fInt (dcons ta dnil)) := by
  refine de_blty (call_int1.or call_int_str) rfl hg hm (da_cons ha da_nil he) (fun σ Q F H ℓ ws vs ds w I wa e1 e2 q => ?_) (he := he)
  unfold fInt at e2
  split at e2
  · cases e2
    obtain ⟨w, v, rfl, rfl, a1, e3⟩ := peeks1 wa e1
    exact .inl (.inl ⟨_, by rw [dp_int (peek_dp I a1 e3)], post_int I q⟩)
  · cases e2
    obtain ⟨w, v, rfl, rfl, a1, e3⟩ := peeks1 wa e1
    exact .inl (.inr ⟨_, by rw [dp_bool (peek_dp I a1 e3)], post_int I q⟩)
  · split at e2
    · rename_i hl
      obtain ⟨n, e4, e5⟩ := Option.map_eq_some_iff.mp e2
      subst e5
      obtain ⟨w, v, rfl, rfl, a1, e3⟩ := peeks1 wa e1
      exact .inr ⟨_, n, by rw [dp_str (peek_dp I a1 e3)], e4, hl, post_int I q⟩
    · cases e2
  · cases e2
theorem de_strT (hg : Gl X "str") (hm : X.mg "str" = none) (ha : DE X B e ta) (he : starEach [e] X.env = (false, eval e X.env) :: starEach [] X.env := by rfl) : DE X B (.Call (.Name "str" p) [e] [] pos) (dbi fStr (dcons ta dnil)) := by
  refine de_blty (call_str_int.or SkE.call_str_str) rfl hg hm (da_cons ha da_nil he) (fun σ Q F H ℓ ws vs ds w I wa e1 e2 q => ?_) (he := he)
  unfold fStr at e2
  split at e2
  · split at e2
    · rename_i hl
      cases e2
      obtain ⟨w, v, rfl, rfl, a1, e3⟩ := peeks1 wa e1
      exact .inl ⟨_, by rw [dp_int (peek_dp I a1 e3)], hl, post_str I q⟩
    · cases e2
  · cases e2
    obtain ⟨w, v, rfl, rfl, a1, e3⟩ := peeks1 wa e1
    exact .inr ⟨_, by rw [dp_str (peek_dp I a1 e3)], post_str I q⟩
  · cases e2
theorem de_sum (hcm : X.calm = true) (hg : Gl X "sum") (hm : X.mg "sum" = none) (ha : DE X B e ta) (he : starEach [e] X.env = (false, eval e X.env) :: starEach [] X.env := by rfl) : DE X B (.Call (.Name "sum" p) [e] [] pos) (dbi fSum (dcons ta dnil)) := by
  refine de_blt (cr_sum hcm) rfl hg hm (da_cons ha da_nil he) (fun σ Q F H ℓ ws vs ds w I wa e1 e2 q => ?_) (he := he)
  unfold fSum at e2
  split at e2
  · obtain ⟨n, e4, e5⟩ := Option.map_eq_some_iff.mp e2
    subst e5
    obtain ⟨w, v, rfl, rfl, a1, e3⟩ := peeks1 wa e1
    obtain ⟨p1, vs, rfl, q1, r1⟩ := peek_lst I a1 e3
    rw [allI_v r1 e4] at q1
    exact ⟨p1, n, rfl, q1, post_int I q⟩
  · cases e2
theorem de_all (hcm : X.calm = true) (hg : Gl X "all") (hm : X.mg "all" = none) (ha : DE X B e ta) (he : starEach [e] X.env = (false, eval e X.env) :: starEach [] X.env := by rfl) : DE X B (.Call (.Name "all" p) [e] [] pos) (dbi fAll (dcons ta dnil)) := by
  refine de_blt (cr_all hcm) rfl hg hm (da_cons ha da_nil he) (fun σ Q F H ℓ ws vs ds w I wa e1 e2 q => ?_) (he := he)
  unfold fAll at e2
  split at e2
  · obtain ⟨n, e4, e5⟩ := Option.map_eq_some_iff.mp e2
    subst e5
    obtain ⟨w, v, rfl, rfl, a1, e3⟩ := peeks1 wa e1
    obtain ⟨p1, vs, rfl, q1, r1⟩ := peek_lst I a1 e3
    rw [allB_v r1 e4] at q1
    exact ⟨p1, n, rfl, q1, post_bool I q⟩
  · cases e2
theorem de_any (hcm : X.calm = true) (hg : Gl X "any") (hm : X.mg "any" = none) (ha : DE X B e ta) (he : starEach [e] X.env = (false, eval e X.env) :: starEach [] X.env := by rfl) : DE X B (.Call (.Name "any" p) [e] [] pos) (dbi fAny (dcons ta dnil)) := by
  refine de_blt (cr_any hcm) rfl hg hm (da_cons ha da_nil he) (fun σ Q F H ℓ ws vs ds w I wa e1 e2 q => ?_) (he := he)
  unfold fAny at e2
  split at e2
  · obtain ⟨n, e4, e5⟩ := Option.map_eq_some_iff.mp e2
    subst e5
    obtain ⟨w, v, rfl, rfl, a1, e3⟩ := peeks1 wa e1
    obtain ⟨p1, vs, rfl, q1, r1⟩ := peek_lst I a1 e3
    rw [allB_v r1 e4] at q1
    exact ⟨p1, n, rfl, q1, post_bool I q⟩
  · cases e2
theorem de_list (hg : Gl X "list") (hm : X.mg "list" = none) (ha : DE X B e ta) (he : starEach [e] X.env = (false, eval e X.env) :: starEach [] X.env := by rfl) : DE X B (.Call (.Name "list" p) [e] [] pos) (dbi fList (dcons ta dnil)) := by
  refine de_blty call_list_of rfl hg hm (da_cons ha da_nil he) (fun σ Q F H ℓ ws vs ds w I wa e1 e2 q => ?_) (he := he)
  unfold fList at e2
  split at e2
  · cases e2
    obtain ⟨w, v, rfl, rfl, a1, e3⟩ := peeks1 wa e1
    obtain ⟨p1, vs, rfl, q1, r1⟩ := peek_lst I a1 e3
    exact ⟨p1, vs, rfl, .inl q1, fun l hl => post_newL I q r1 hl⟩
  · cases e2
    obtain ⟨w, v, rfl, rfl, a1, e3⟩ := peeks1 wa e1
    obtain ⟨p1, vs, rfl, q1, r1⟩ := peek_tup I a1 e3
    exact ⟨p1, vs, rfl, .inr q1, fun l hl => post_newL I q r1 hl⟩
  · cases e2
theorem de_tuple (hg : Gl X "tuple") (hm : X.mg "tuple" = none) (ha : DE X B e ta) (he : starEach [e] X.env = (false, eval e X.env) :: starEach [] X.env := by rfl) : DE X B (.Call (.Name "tuple" p) [e] [] pos) (dbi fTuple (dcons ta dnil)) := by
  refine de_blty call_tuple_of rfl hg hm (da_cons ha da_nil he) (fun σ Q F H ℓ ws vs ds w I wa e1 e2 q => ?_) (he := he)
  unfold fTuple at e2
  split at e2
  · cases e2
    obtain ⟨w, v, rfl, rfl, a1, e3⟩ := peeks1 wa e1
    obtain ⟨p1, vs, rfl, q1, r1⟩ := peek_lst I a1 e3
    exact ⟨p1, vs, rfl, .inl ⟨q1, fun l hl => post_newT I q r1 hl⟩⟩
  · cases e2
theorem de_min2 (hcm : X.calm = true) (hg : Gl X "min") (hm : X.mg "min" = none) (ha : DE X B a ta) (hb : DE X B b tb) (he : starEach [a, b] X.env = (false, eval a X.env) :: starEach [b] X.env := by rfl) (he2 : starEach [b] X.env = (false, eval b X.env) :: starEach [] X.env := by rfl) (hpl : (backTo pos (starEach [b] X.env)).any (·.1) = false := by rfl) :
    DE X B (.Call (.Name "min" p) [a, b] [] pos) (dbi fMin2 (dcons ta (dcons tb dnil))) := by
  refine de_blt (call_min2 hcm) rfl hg hm (da_cons ha (da_cons hb da_nil he2) he) (fun σ Q F H ℓ ws vs ds w I wa e1 e2 q => ?_) (he := he) (hpl := hpl)
  unfold fMin2 at e2
  split at e2
  · cases e2
    obtain ⟨v, u, rfl, r1, r2⟩ := rpAll_2 (peeks_dp I wa e1)
    exact ⟨_, _, by rw [dp_int r1, dp_int r2], post_int I q⟩
  · cases e2
theorem de_max2 (hcm : X.calm = true) (hg : Gl X "max") (hm : X.mg "max" = none) (ha : DE X B a ta) (hb : DE X B b tb) (he : starEach [a, b] X.env = (false, eval a X.env) :: starEach [b] X.env := by rfl) (he2 : starEach [b] X.env = (false, eval b X.env) :: starEach [] X.env := by rfl) (hpl : (backTo pos (starEach [b] X.env)).any (·.1) = false := by rfl) :
    DE X B (.Call (.Name "max" p) [a, b] [] pos) (dbi fMax2 (dcons ta (dcons tb dnil))) := by
  refine de_blt (call_max2 hcm) rfl hg hm (da_cons ha (da_cons hb da_nil he2) he) (fun σ Q F H ℓ ws vs ds w I wa e1 e2 q => ?_) (he := he) (hpl := hpl)
  unfold fMax2 at e2
  split at e2
  · cases e2
    obtain ⟨v, u, rfl, r1, r2⟩ := rpAll_2 (peeks_dp I wa e1)
    exact ⟨_, _, by rw [dp_int r1, dp_int r2], post_int I q⟩
  · cases e2
end
end DL

/-! DLa: methods of texts and lists, isinstance. -/
namespace DL
open PySem PySem.Spec PyProof.Rows L2

/-! ### methods of texts -/
def dm1 (f : Str → D → Option W) (to te : CE) : CE := bindE (arg to) fun wo ℓ => match peek ℓ wo with
  | some (.str a) => bindE (arg te) (fun wy ℓ2 => match peek ℓ2 wy with
    | some y => (match f a y with
      | some w => some (.ok w ℓ2)
      | none => none)
    | none => none) ℓ
  | _ => none
def dm0 (f : Str → Option W) (to : CE) : CE := bindE (arg to) fun wo ℓ => match peek ℓ wo with
  | some (.str a) => (match f a with
    | some w => some (.ok w ℓ)
    | none => none)
  | _ => none
section
variable {c : DC} {F F' H H' F1 H1 : Hp} {σ : L2.St} {ℓ ℓ' ℓ1 : LS} {Wx : WX}
theorem lift_dm1 {f : Str → D → Option W} {to te : CE} {r : V → List V → Hp → VK → Prop} {Q : VK}
    (hr : ∀ F H ℓ a wy v y w, DI c F H σ ℓ → WA c F σ wy v → peek ℓ wy = some y → f a y = some w → PostE c F σ (some (.ok w ℓ)) Q Wx → r (.str a) [v] H Q)
    (h : lift c Wx (dm1 f to te) σ H Q) : tM1 r (lift c Wx to) (lift c Wx te) σ H Q := by
  obtain ⟨F, ℓ, I, p⟩ := h
  refine pbind I p fun F1 H1 ℓ1 wo u I1 s1 a1 p1 => ?_
  cases e : peek ℓ1 wo with
  | none => simp only [e] at p1; exact p1.elim
  | some x =>
    simp only [e] at p1
    cases x with
    | str a =>
      have hu := dp_str (peek_dp I1 a1 e)
      subst hu
      refine ⟨⟨a, rfl⟩, ?_⟩
      refine pbind I1 p1 fun F2 H2 ℓ2 wy v I2 s2 a2 p2 => ?_
      cases e2 : peek ℓ2 wy with
      | none => simp only [e2] at p2; exact p2.elim
      | some y =>
        simp only [e2] at p2
        cases e3 : f a y with
        | none => simp only [e3] at p2; exact p2.elim
        | some w =>
          simp only [e3] at p2
          exact hr F2 H2 ℓ2 a wy v y w I2 a2 e2 e3 p2
    | _ => exact p1.elim
theorem lift_dm0 {f : Str → Option W} {to : CE} {r : V → List V → Hp → VK → Prop} {Q : VK}
    (hr : ∀ F H ℓ a w, DI c F H σ ℓ → f a = some w → PostE c F σ (some (.ok w ℓ)) Q Wx → r (.str a) [] H Q)
    (h : lift c Wx (dm0 f to) σ H Q) : tM0 r (lift c Wx to) σ H Q := by
  obtain ⟨F, ℓ, I, p⟩ := h
  refine pbind I p fun F1 H1 ℓ1 wo u I1 s1 a1 p1 => ?_
  cases e : peek ℓ1 wo with
  | none => simp only [e] at p1; exact p1.elim
  | some x =>
    simp only [e] at p1
    cases x with
    | str a =>
      have hu := dp_str (peek_dp I1 a1 e)
      subst hu
      refine ⟨⟨a, rfl⟩, ?_⟩
      cases e3 : f a with
      | none => simp only [e3] at p1; exact p1.elim
      | some w =>
        simp only [e3] at p1
        exact hr F1 H1 ℓ1 a w I1 e3 p1
    | _ => exact p1.elim
end
def fPart (a : Str) : D → Option W
  | .str b => if b.length ≠ 0 ∧ a.length ≤ 16777216 then some (.d (.tuple [.str (Txt.partition a b).1, .str (Txt.partition a b).2.1, .str (Txt.partition a b).2.2])) else none
  | _ => none
def fZfill (a : Str) : D → Option W
  | .int i => if -(9223372036854775808 : Int) ≤ i ∧ i ≤ 16777216 then some (.d (.str (Txt.zfill a i))) else none
  | _ => none
def joinOk (a : Str) (ys : List Str) : Bool := decide ((ys.map (·.length)).sum + ys.length * a.length ≤ 16777216)
def fJoin (a : Str) : D → Option W
  | .list ds => (match allS ds with
    | some ys => if joinOk a ys then some (.d (.str (Txt.join a ys))) else none
    | none => none)
  | .tuple ds => (match allS ds with
    | some ys => if joinOk a ys then some (.d (.str (Txt.join a ys))) else none
    | none => none)
  | _ => none
def fSplit (a : Str) : D → Option W
  | .str b => if b.length ≠ 0 ∧ a.length + 2 ≤ 16777216 then some (.fr ((Txt.split a b).map .str)) else none
  | _ => none
def fUpper (a : Str) : Option W := if a.length ≤ 5592405 then some (.d (.str (Txt.upper a))) else none
def fCount (a : Str) : D → Option W
  | .str b => some (.d (.int (Txt.count a b)))
  | _ => none
section
variable {X : Cx} {B : Fr0} {o e : Expr} {to te : CE} {apos pos : Pos}
theorem padOk {i : Int} (h : -(9223372036854775808 : Int) ≤ i ∧ i ≤ 16777216) : PadOk i = true := by
  unfold PadOk PySem.fitsSsize Builtin.Str.tooLong
  rw [sizeLine_num]
  have e1 : decide (i < -(2 ^ 63 : Int)) = false := decide_eq_false (by omega)
  have e2 : decide (i ≥ 2 ^ 63) = false := decide_eq_false (by omega)
  have e3 : decide (i.toNat > 16777216) = false := decide_eq_false (by omega)
  rw [e1, e2, e3]; rfl
theorem de_part (ho : DE X B o to) (he : DE X B e te) (hs : starEach [e] X.env = [(false, eval e X.env)] := by rfl) (hbase : attributeBase o "partition" X.env (eval o X.env) = eval o X.env := by rfl) (hline : (apos.endLine == pos.line) = true := by rfl) :
    DE X B (.Call (.Attribute o "partition" apos) [e] [] pos) (dm1 fPart to te) :=
  peImp (pe_partition ho he hs hbase hline) fun σ H Q h => lift_dm1 (fun F H ℓ a wy v y w I a2 e2 e3 p => by
    unfold fPart at e3
    split at e3
    · split at e3
      · rename_i b hb
        cases e3
        rw [dp_str (peek_dp I a2 e2)]
        exact ⟨a, b, rfl, rfl, by simpa using hb.1, by rw [sizeLine_num]; exact hb.2, fun q hq => post_newT I p (.cons (.str _) (.cons (.str _) (.cons (.str _) .nil))) hq⟩
      · cases e3
    · cases e3) h
theorem de_zfill (ho : DE X B o to) (he : DE X B e te) (hs : starEach [e] X.env = [(false, eval e X.env)] := by rfl) (hbase : attributeBase o "zfill" X.env (eval o X.env) = eval o X.env := by rfl) (hline : (apos.endLine == pos.line) = true := by rfl) :
    DE X B (.Call (.Attribute o "zfill" apos) [e] [] pos) (dm1 fZfill to te) :=
  peImp (pe_m1 F.slot_str_zfill F.type_str_zfill mt_zfill ho he hs hbase hline) fun σ H Q h => lift_dm1 (fun F H ℓ a wy v y w I a2 e2 e3 p => by
    unfold fZfill at e3
    split at e3
    · split at e3
      · rename_i b hb
        cases e3
        rw [dp_int (peek_dp I a2 e2)]
        exact ⟨a, b, rfl, rfl, padOk hb, post_str I p⟩
      · cases e3
    · cases e3) h
theorem joinOk_le {a : Str} {ys : List Str} (h : joinOk a ys = true) : (ys.map (·.length)).sum + ys.length * a.length ≤ 16777216 := by
  unfold joinOk at h
  exact of_decide_eq_true h
theorem de_join (ho : DE X B o to) (he : DE X B e te) (hs : starEach [e] X.env = [(false, eval e X.env)] := by rfl) (hbase : attributeBase o "join" X.env (eval o X.env) = eval o X.env := by rfl) (hline : (apos.endLine == pos.line) = true := by rfl) :
    DE X B (.Call (.Attribute o "join" apos) [e] [] pos) (dm1 fJoin to te) :=
  peImp (pe_join ho he hs hbase hline) fun σ H Q h => lift_dm1 (fun F H ℓ a wy v y w I a2 e2 e3 p => by
    unfold fJoin at e3
    split at e3
    · split at e3
      · rename_i ys hys
        split at e3
        · rename_i hj
          cases e3
          obtain ⟨q1, vs, rfl, h1, r1⟩ := peek_lst I a2 e2
          rw [allS_v r1 hys] at h1
          exact ⟨a, q1, ys, rfl, rfl, .inl h1, joinOk_le hj, post_str I p⟩
        · cases e3
      · cases e3
    · split at e3
      · rename_i ys hys
        split at e3
        · rename_i hj
          cases e3
          obtain ⟨q1, vs, rfl, h1, r1⟩ := peek_tup I a2 e2
          rw [allS_v r1 hys] at h1
          exact ⟨a, q1, ys, rfl, rfl, .inr h1, joinOk_le hj, post_str I p⟩
        · cases e3
      · cases e3
    · cases e3) h
theorem de_split (ho : DE X B o to) (he : DE X B e te) (hs : starEach [e] X.env = [(false, eval e X.env)] := by rfl) (hbase : attributeBase o "split" X.env (eval o X.env) = eval o X.env := by rfl) (hline : (apos.endLine == pos.line) = true := by rfl) :
    DE X B (.Call (.Attribute o "split" apos) [e] [] pos) (dm1 fSplit to te) :=
  peImp (pe_split ho he hs hbase hline) fun σ H Q h => lift_dm1 (fun F H ℓ a wy v y w I a2 e2 e3 p => by
    unfold fSplit at e3
    split at e3
    · split at e3
      · rename_i b hb
        cases e3
        rw [dp_str (peek_dp I a2 e2)]
        exact ⟨a, b, rfl, rfl, by simpa using hb.1, by rw [sizeLine_num]; exact hb.2, fun q hq => post_newL I p (rpStrs _) hq⟩
      · cases e3
    · cases e3) h
theorem de_count (ho : DE X B o to) (he : DE X B e te) (hs : starEach [e] X.env = [(false, eval e X.env)] := by rfl) (hbase : attributeBase o "count" X.env (eval o X.env) = eval o X.env := by rfl) (hline : (apos.endLine == pos.line) = true := by rfl) :
    DE X B (.Call (.Attribute o "count" apos) [e] [] pos) (dm1 fCount to te) :=
  peImp (pe_m1 F.slot_str_count F.type_str_count mt_count ho he hs hbase hline) fun σ H Q h => lift_dm1 (fun F H ℓ a wy v y w I a2 e2 e3 p => by
    unfold fCount at e3
    split at e3
    · cases e3
      rw [dp_str (peek_dp I a2 e2)]
      exact ⟨a, _, rfl, rfl, post_int I p⟩
    · cases e3) h
theorem de_upper (ho : DE X B o to) (hbase : attributeBase o "upper" X.env (eval o X.env) = eval o X.env := by rfl) (hline : (apos.endLine == pos.line) = true := by rfl) :
    DE X B (.Call (.Attribute o "upper" apos) [] [] pos) (dm0 fUpper to) :=
  peImp (pe_upper ho hbase hline) fun σ H Q h => lift_dm0 (fun F H ℓ a w I e3 p => by
    unfold fUpper at e3
    split at e3
    · cases e3
      exact ⟨a, rfl, rfl, by assumption, post_str I p⟩
    · cases e3) h
end

/-! ### isinstance of one built-in class -/
def isiB (T : String) : D → Bool
  | .none => T == "NoneType"
  | .bool _ => T == "bool" || T == "int"
  | .int _ => T == "int"
  | .str _ => T == "str"
  | .list _ => T == "list"
  | .tuple _ => T == "tuple"
  | .dict _ => T == "dict"
def tyD : D → String
  | .none => "NoneType" | .bool _ => "bool" | .int _ => "int" | .str _ => "str" | .list _ => "list" | .tuple _ => "tuple" | .dict _ => "dict"
def KitT (T : String) : Prop := ∀ n ∈ ["NoneType", "bool", "int", "str", "list", "tuple"], kitB n T = some (match n with
  | "NoneType" => T == "NoneType" | "bool" => T == "bool" || T == "int" | x => T == x)
theorem kitT_int : KitT "int" := by unfold KitT; decide +kernel
theorem kitT_bool : KitT "bool" := by unfold KitT; decide +kernel
theorem kitT_str : KitT "str" := by unfold KitT; decide +kernel
theorem kitT_list : KitT "list" := by unfold KitT; decide +kernel
theorem kitT_tuple : KitT "tuple" := by unfold KitT; decide +kernel
theorem kit_is {K : PySem.W.Frag} {T : String} (h : KitT T) {d : D} (hd : ∀ x, d ≠ .dict x) : PySem.W.kitOne K (.type (tyD d)) (.type T) = some (isiB T d) := by
  apply kit_ty
  cases d with
  | none => exact h "NoneType" (by simp)
  | bool _ => exact h "bool" (by simp)
  | int _ => exact h "int" (by simp)
  | str _ => exact h "str" (by simp)
  | list _ => exact h "list" (by simp)
  | tuple _ => exact h "tuple" (by simp)
  | dict x => exact absurd rfl (hd x)
theorem ty_rp {K : PySem.W.Frag} {H : Hp} {v : V} {d : D} (h : Rp K H v d) : TyX K H v (.type (tyD d)) := by
  cases h with
  | non => exact .base .non
  | bl b => exact .base (.bl b)
  | int b => exact .base (.int b)
  | str b => exact .base (.str b)
  | lst h1 h2 =>
    rcases h1 with (h1 | ⟨o, h1⟩) | ⟨o, its, n, h1, h2, _⟩
    · exact .base (.lst h1)
    · exact .base (.frz h1)
    · exact .kList h1 h2
  | tup h1 h2 =>
    rcases h1 with (h1 | ⟨o, h1⟩) | ⟨o, its, n, h1, h2, _⟩
    · exact .base (.tup h1)
    · exact .fTuple h1
    · exact .kTuple h1 h2
theorem rp_nodict {K : PySem.W.Frag} {H : Hp} {v : V} {d : D} (h : Rp K H v d) : ∀ x, d ≠ .dict x := fun x z => by subst z; cases h
/-- isinstance(x, T) -/
def disi (T : String) (t : CE) : CE := d1 (fun d => some (.d (.bool (isiB T d)))) t
theorem dpIsi {c : DC} {F H : Hp} {σ : L2.St} {ℓ : LS} {w : W} {v : V} {d : D} (I : DI c F H σ ℓ) (a : WA c F σ w v) (e : peek ℓ w = some d) : Rp c.K H v d := peek_dp I a e
section
variable {X : Cx} {B : Fr0} {e : Expr} {t : CE} {p pT pos : Pos} {x : Str} {T : String}
theorem de_isi (hk : KitT T) (hv : bootBuiltins x = some (.type T)) (hg : Gl X "isinstance") (hm : X.mg "isinstance" = none) (hgT : Gl X x) (hmT : X.mg x = none) (ha : DE X B e t) (hn : x ≠ "__name__" := by decide) (hdb : (x == ("__debug__" : Str)) = false := by decide)
    (he : starEach [e, .Name x pT] X.env = (false, eval e X.env) :: starEach [.Name x pT] X.env := by rfl) (he2 : starEach [.Name x pT] X.env = (false, eval (.Name x pT) X.env) :: starEach [] X.env := by rfl) (hpl : (backTo pos (starEach [.Name x pT] X.env)).any (·.1) = false := by rfl) :
    DE X B (.Call (.Name "isinstance" p) [e, .Name x pT] [] pos) (disi T t) := by
  refine peImp (pe_callB (t := tCons (lift (cX X B) B.W t) (tCons (tC (.ty T)) tNil)) call_isi hg hm rfl (pa_cons ha (pa_cons (pe_bltn hgT hmT hv rfl hn hdb) pa_nil he2) he) (by decide) (by decide) he hpl) fun σ H Q h => ?_
  refine lift_d1 (fun F H ℓ wa u x w I a1 e1 e3 p => ?_) h
  cases e3
  have r := peek_dp I a1 e1
  exact ⟨u, .ty T, .type (tyD x), .type T, isiB T x, rfl, .ty T, ty_rp r, kit_is hk (rp_nodict r), post_bool I p⟩
end

/-! ### methods of the frame's own lists, as statements -/
/-- x.append(e) -/
def dapp (i : Nat) (t : CE) : CS := fun ℓ => match ℓ[i]? with
  | some (.ow _) => (match arg t ℓ with
    | none => none
    | some (.ex x ℓ1) => some (.ex x, ℓ1)
    | some (.ok w ℓ1) => match keepW ℓ1 w with
      | none => none
      | some (d, ℓ2) => match ℓ2[i]? with
        | some (.ow ds) => if ds.length < 16777216 then some (.nx, ℓ2.set i (.ow (ds ++ [d]))) else none
        | _ => none)
  | _ => none
section
variable {c : DC} {F F' H H' F1 H1 : Hp} {σ : L2.St} {ℓ ℓ' ℓ1 : LS} {Wx : WX}
/-- the list of slot i is written -/
theorem DI.wr {i : Nat} {a : Addr} {ds es : List D} {us : List V} (I : DI c F H σ ℓ) (e : ℓ[i]? = some (.ow ds)) (ea : σ[i]? = some (some (.ref a))) (r : RpAll c.K F us es) : DI c F (upd H a (.lst us)) σ (ℓ.set i (.ow es)) := by
  obtain ⟨b, vs, h1, h2, h3, h4, h5⟩ := I.ow i ds e
  rw [ea] at h1; cases h1
  refine ⟨fun x u q => ?_, fun x u q => ?_, I.old, I.ge, by rw [List.length_set]; exact I.len, fun j d q => ?_, fun j fs q => ?_, fun j k x es1 es2 q1 q2 z1 z2 => ?_, fun j q => ?_, fun q z => (I.xr q z).mono (Same.refl _) fun x fs y => ?_⟩
  · have ne : x ≠ a := fun z => by subst z; rw [h2] at q; cases q
    rw [upd_ne ne]; exact I.sub x u q
  · have ne : x ≠ a := fun z => by subst z; rw [h3] at q; cases q
    rw [upd_ne ne]; exact I.ent x u q
  · by_cases h : j = i
    · subst h
      have hl : j < ℓ.length := (List.getElem?_eq_some_iff.mp e).1
      rw [List.getElem?_set_self hl] at q; cases q
    · rw [List.getElem?_set_ne (Ne.symm h)] at q
      exact I.im j d q
  · by_cases h : j = i
    · subst h
      have hl : j < ℓ.length := (List.getElem?_eq_some_iff.mp e).1
      rw [List.getElem?_set_self hl] at q; cases q
      exact ⟨a, us, ea, h2, h3, upd_same, r⟩
    · rw [List.getElem?_set_ne (Ne.symm h)] at q
      obtain ⟨x, ws, g1, g2, g3, g4, g5⟩ := I.ow j fs q
      have ne : x ≠ a := fun z => by subst z; exact h (I.dis j i x fs ds q e g1 ea)
      exact ⟨x, ws, g1, g2, g3, by rw [upd_ne ne]; exact g4, g5⟩
  · have back : ∀ (m : Nat) (gs : List D), (ℓ.set i (.ow es))[m]? = some (.ow gs) → ∃ gs', ℓ[m]? = some (.ow gs') := fun m gs q => by
      by_cases h : m = i
      · subst h; exact ⟨ds, e⟩
      · rw [List.getElem?_set_ne (Ne.symm h)] at q; exact ⟨gs, q⟩
    obtain ⟨g1, e1⟩ := back j es1 q1
    obtain ⟨g2, e2⟩ := back k es2 q2
    exact I.dis j k x g1 g2 e1 e2 z1 z2
  · by_cases h : j = i
    · subst h
      have hl : j < ℓ.length := (List.getElem?_eq_some_iff.mp e).1
      rw [List.getElem?_set_self hl] at q; cases q
    · rw [List.getElem?_set_ne (Ne.symm h)] at q
      exact I.xs j q
  · have ne : x ≠ a := fun w => by subst w; rw [h4] at y; cases y
    rw [upd_ne ne]; exact y
theorem lift_dapp {i : Nat} {t : CE} {D : Ends} (h : liftS c Wx (dapp i t) D σ H) : tDrop (tBM c.K "list" rAppend (tVar i) (tCons (lift c Wx t) tNil)) D σ H := by
  obtain ⟨F, ℓ, I, p⟩ := h
  unfold dapp at p
  cases e0 : ℓ[i]? with
  | none => simp only [e0] at p; exact p.elim
  | some l0 =>
    cases l0 with
    | un => simp only [e0] at p; exact p.elim
    | xc => simp only [e0] at p; exact p.elim
    | im d => simp only [e0] at p; exact p.elim
    | ow ds0 =>
      simp only [e0] at p
      obtain ⟨a, vs0, h1, h2, h3, h4, h5⟩ := I.ow i ds0 e0
      refine ⟨.ref a, h1, .inl ⟨rfl, vs0, .inl (.inl h4)⟩, ?_⟩
      refine lift_arg ⟨F, ℓ, I, ?_⟩
      cases e : arg t ℓ with
      | none => rw [e] at p; exact p
      | some r =>
        rw [e] at p
        cases r with
        | ex x l => exact fun cls dd F' H' I' s' xr => p cls dd σ F' H' I' s' xr
        | ok w l =>
          intro v F1 H1 I1 s1 wr
          cases q : keepW l w with
          | none => simp only [q] at p; exact p.elim
          | some dl =>
            obtain ⟨d, l2⟩ := dl
            simp only [q] at p
            obtain ⟨F2, I2, s2, r2⟩ := keep_dp I1 (wr.wa (arg_nofr e)) q
            cases q2 : l2[i]? with
            | none => simp only [q2] at p; exact p.elim
            | some l3 =>
              cases l3 with
              | un => simp only [q2] at p; exact p.elim
              | xc => simp only [q2] at p; exact p.elim
              | im d => simp only [q2] at p; exact p.elim
              | ow ds =>
                simp only [q2] at p
                by_cases hz : ds.length < 16777216
                · rw [if_pos hz] at p
                  obtain ⟨b, us, g1, g2, g3, g4, g5⟩ := I2.ow i ds q2
                  rw [h1] at g1; cases g1
                  refine ⟨a, us, v, rfl, rfl, g4, by rw [dpAll_len g5, sizeLine_num]; exact hz, ?_⟩
                  exact p σ F2 _ (I2.wr q2 h1 (dpAll_app g5 (.cons r2 .nil))) (s1.trans s2)
                · rw [if_neg hz] at p; exact p.elim
end
section
variable {X : Cx} {B : Fr0} {e : Expr} {t : CE} {x : Str} {px ap cp pos : Pos} {i : Nat}
theorem ds_append (hN : X.N[i]? = some x) (he : DE X B e t) (hv : Vis X.env.scope x := by first | exact Or.inl rfl | exact Or.inr (Or.inl rfl) | exact Or.inr (Or.inr rfl)) (hd : (x == ("__debug__" : Str)) = false := by decide) (hcd : (x == ("__classdict__" : Str)) = false := by decide)
    (hbase : attributeBase (.Name x px) "append" X.env (eval (.Name x px) X.env) = eval (.Name x px) X.env := by rfl)
    (hfew : ((backTo cp (starEach [e] X.env)).all (fun x => !x.1) && (backToKw cp (keywordEach [] X.env)).all (fun x => x.1.isSome)
      && decide ([e].length + ([] : List Keyword).length + (if ([] : List Keyword).isEmpty then 0 else 1) < 30)) = true := by rfl)
    (hline : (ap.endLine == cp.line) = true := by rfl) (hs : starEach [e] X.env = (false, eval e X.env) :: starEach [] X.env := by rfl)
    (hsw : swapsWith (.Call (.Attribute (.Name x px) "append" ap) [e] [] cp) none pos.line X.env = pure false := by rfl) :
    DS X B (.Expr (.Call (.Attribute (.Name x px) "append" ap) [e] [] cp) pos) (dapp i t) :=
  psImp (ps_expr (pe_bm PySem.F.plainAttrs_list PySem.F.slot_list_append PySem.F.type_list_append mt_append (pe_var hN hv hd hcd) (pa_cons he pa_nil hs) hbase hfew hline hs rfl) hsw) fun _ _ _ h => lift_dapp h
end
end DL

/-! DLb: a clause with any test (a class, classes in a tuple), whose suite may raise. -/
namespace DL
open PySem PySem.Spec PyProof.Rows L2

theorem fly_more {B h h' : Heap} {l : List Env} {a : Addr} {Z : Obj → Prop} (f : HandSPX.FlyingZ B l a Z h) (k : ∀ b o, h.get? b = some o → h'.get? b = some o) : HandSPX.FlyingZ B l a Z h' := by
  obtain ⟨q1, q2, q3, oe, vs, T, oT, ts, g1, g2, g3, g4, g5, g6, g7, g8, g9⟩ := f
  exact ⟨fun b o e => k b o (q1 b o e), q2, q3.of_keeps fun b o e _ => ⟨o, k b o e, rfl⟩, oe, vs, T, oT, ts, k _ _ g1, g2, g3, g4, g5, g6, k _ _ g7, g8, g9⟩
/-- a clause's test: mt says of an exception's class whether it is named -/
def Tst (X : Cx) (te : Expr) (mt : Value → Option Bool) : Prop :=
  ∀ (a : Addr) (oe : Obj) (pn pins : List (Addr × Obj)) (σ : L2.St) (H : Hp) (s : Shared) (cls : Value) (b : Bool) (Q : Bool → Shared → Prop) (E : Value → Shared → Prop), Inv (X.suite a ((a, oe) :: pn)) pins σ H s →
    PySem.W.Looks (model X.prog X.w) s.heap (typeOf (.ref a)) cls → mt cls = some b → (∀ h', (∀ c o, s.heap.get? c = some o → h'.get? c = some o) → Q b { s with heap := h' }) →
    wpAny (model X.prog X.w) (X.A.mark (some (.ref a))) (eval te X.env) (fun c s1 => wpAny (model X.prog X.w) (X.A.mark (some (.ref a))) (excMatches (.ref a) c) Q E s1) E s
section
variable {X : Cx} {x y : Str} {c d : Value} {p1 p2 p3 : Pos}
theorem name_at {a : Addr} {oe : Obj} {pn pins : List (Addr × Obj)} {σ : L2.St} {H : Hp} {s : Shared} {Q : Value → Shared → Prop} {E : Value → Shared → Prop} (hc : Names X x c) (I : Inv (X.suite a ((a, oe) :: pn)) pins σ H s) (q : Q c s) :
    wpAny (model X.prog X.w) (X.A.mark (some (.ref a))) (eval (.Name x p1) X.env) Q E s := by
  obtain ⟨g, nd, z⟩ := hc
  rcases z with m | ⟨m, v, n⟩
  · exact ld_glob (X := X.suite a ((a, oe) :: pn)) I g m q nd
  · exact ld_blt (X := X.suite a ((a, oe) :: pn)) I g m v q n nd
theorem tst_name (hc : Names X x c) : Tst X (.Name x p1) (fun cls => PySem.W.exmOne X.K cls c) := by
  intro a oe pn pins σ H s cls b Q E I LT hm k
  refine name_at hc I ?_
  exact (PySem.W.exm_one (M := model X.prog X.w) I.kIn LT hm).here (k s.heap fun _ _ z => z)
theorem tst_two {kk : Nat} (hc : Names X x c) (hd : Names X y d) : Tst X (.Tuple [.Name x p1, .Name y p2] kk p3) (fun cls => PySem.W.exmAny X.K cls [c, d]) := by
  intro a oe pn pins σ H s cls b Q E I LT hm k
  refine wpAny_Tuple (wpAny_items_cons (name_at hc I (wpAny_items_cons (name_at hd I (wpAny_items_nil ⟨by simp [sizeLine_num], ?_⟩)))))
  have grow : ∀ (q : Addr) (o : Obj), s.heap.get? q = some o → (s.heap.push { cls := .type "tuple", data := .seq #[c, d] }).get? q = some o := fun _ _ z => Heap.get?_push_of_some _ z
  have here : (s.heap.push { cls := .type "tuple", data := .seq #[c, d] }).get? s.heap.objs.size = some { cls := .type "tuple", data := .seq [c, d].toArray } := Heap.get?_push_size s.heap rfl
  exact (PySem.W.exm_tup2 (M := model X.prog X.w) (I.kIn.keeps grow) (LT.keeps grow) here hm).here (k _ grow)
end
/-- what the clause wishes of an exception of the body -/
def wTst (mt : Value → Option Bool) (ts : Addr → Value → Option Addr → TS) (Wo : WX) (D : Ends) : WX := fun cls d σ H =>
  ∃ b, mt cls = some b ∧ (b = true → ∀ a, H a = none → ts a cls d D σ H) ∧ (b = false → Wo cls d σ H)
section
variable {X : Cx} {te : Expr} {mt : Value → Option Bool} {body suite : List Stmt} {st0 : Stmt} {pc pos : Pos} {tb : WX → TS} {ts : Addr → Value → Option Addr → TS} {Wo : WX}
/-- try: body / except test: suite. The body's exceptions have no context; the suite may raise (the one behind it has this one for its context) -/
theorem ps_tryR (hst : X.stack = X.env :: X.outer) (hfm : X.env.frame = some X.env.locals) (hT : Tst X te mt) (own : ∀ hd : Option Value, PassesOwnAt (model X.prog X.w) (X.A.mark hd) X.A X.env X.xe) (tk : L2.Takes X Wo)
    (hbody : ∀ (W : WX) (pn : List (Addr × Obj)) (xe : Value → Shared → Prop), L2N.Takes (X.tr pn xe) W → PassesOwn (model X.prog X.w) X.A X.env xe → PSs (X.tr pn xe) body (tb W))
    (hsuite : ∀ (a : Addr) (oe : Obj) (cls : Value) (d : Option Addr) (pn : List (Addr × Obj)), L2N.Zn cls d oe → (∃ vs, oe.data = .fields vs) → L2.Takes (L2H.suiteX X a ((a, oe) :: pn)) Wo → L2H.HotC (L2H.suiteX X a ((a, oe) :: pn)) →
      PSs (L2H.suiteX X a ((a, oe) :: pn)) (st0 :: suite) (ts a cls d)) :
    PS X (.Try body [.ExceptHandler (some te) none (st0 :: suite) pc] [] [] pos) (fun D σ H => tb (wTst mt ts Wo D) D σ H) := by
  refine ⟨fun pins s σ H D I h => ?_⟩
  have okX := I.ok
  have frames : X.A.frames = some (X.env :: X.outer) := by rw [okX.frames, hst]
  refine wpAny_Try_except ?_
  have caught : L2N.Takes (X.tr (X.pn ++ pins) fun e s₁ => wpAny (model X.prog X.w) X.A (noteFrame e X.env) (fun _ s₂ => wpAny (model X.prog X.w) X.A (setFlight e none) (fun _ s₃ =>
      wpAny (model X.prog X.w) X.A (handleBy e X.env [.ExceptHandler (some te) none (st0 :: suite) pc]) (SP X pins D) X.xe s₃) X.xe s₂) X.xe s₁) (wTst mt ts Wo D) := by
    rintro u s' ⟨a, B, sI, pins', σ', H', cls, d, rfl, Jt, ground, ups, sky, noA, sameOs, bare, b, hm, yes, no⟩
    have J : Inv X pins σ' H' sI := Jt.ofTry okX
    have sky2 : Sky B (X.env :: X.outer) a (L2N.Zn cls d) X.env.locals s'.heap := by rw [← hst]; exact sky
    refine L2N.Sky.land L2N.Zn.steady frames hfm sky2 fun g1 fl1 u1 => ?_
    have J1 : Inv X pins σ' H' { s' with heap := g1 } := J.landed ground fl1.1 (ups.trans u1) sameOs bare
    obtain ⟨o1, vs1, at1, z1, data1⟩ := fl1.there
    -- the exception's object is no frame
    have off : ∀ {g : Heap} {o : Obj} {vs : Array Value}, g.FunFrames B (X.env :: X.outer) → g.get? a = some o → o.data = .fields vs → a ∉ frs (X.env :: X.outer) := fun ff e dd hmem => by
      obtain ⟨_, o', e', nof⟩ := ff.mem hmem
      rw [e] at e'
      cases e'
      exact nof _ dd
    have offA := off fl1.2.2.1 at1 data1
    have offL : a ≠ X.env.locals := fun z => offA (List.mem_filterMap.mpr ⟨X.env, List.mem_cons_self, by rw [hfm, z]⟩)
    have offF : a ∉ X.fs := fun hmem => by
      obtain ⟨e, he, q⟩ := List.mem_filterMap.mp hmem
      exact offA (List.mem_filterMap.mpr ⟨e, List.mem_cons_of_mem _ he, q⟩)
    have looks : PySem.W.Looks (model X.prog X.w) g1 (typeOf (.ref a)) cls := fun A Q E s k q => wpAny_typeOf_ref (k _ _ at1) (by rw [z1.1]; exact q)
    refine wpAny_handleBy_cons (codeAny_handlers_test ?_) (fun z => by cases z)
    refine hT a o1 (X.pn ++ pins) [] σ' H' { s' with heap := g1 } cls b _ _ (J1.suite at1 data1 noA offL offF) looks hm fun g2 k2 => ?_
    have fl2 := fly_more fl1 k2
    have u2 : sI.heap.UpToSlots g2 := (ups.trans u1).trans (Heap.UpToSlots.of_keeps k2)
    cases b with
    | true =>
      refine codeAny_handlers_suite (HandSPX.lands_againZ fl2 fun g3 fl3 u3 => ?_)
      have J3 : Inv X pins σ' H' { s' with heap := g3 } := J.landed ground fl3.1 (u2.trans u3) sameOs bare
      obtain ⟨o3, vs3, at3, z3, data3⟩ := fl3.there
      have takesS : L2.Takes (L2H.suiteX X a ((a, o3) :: (X.pn ++ pins))) Wo := fun v sv ⟨a', B', sI', pn', σ2, H2, cls2, d2, e2, I2, r⟩ => tk v sv ⟨a', B', sI', pins, σ2, H2, cls2, d2, e2, L2H.unsuiteX I2 okX, r⟩
      have hotS : L2H.HotC (L2H.suiteX X a ((a, o3) :: (X.pn ++ pins))) := ⟨(a, o3), ⟨rfl, vs3, data3, z3.2.2 vs3 data3⟩, List.mem_cons_self⟩
      refine wpAny_mono ((hsuite a o3 cls d (X.pn ++ pins) z3 ⟨vs3, data3⟩ takesS hotS).run [] _ _ H' _ (L2H.suiteX_of (J3.suite at3 data3 noA offL offF)) (yes rfl a noA)) (fun f s6 hsp => ?_) (fun e6 s6 z => own (some (.ref a)) e6 s6 z)
      cases f with
      | next => exact hsp.elim fun σ6 r => r.elim fun H6 q => ⟨σ6, H6, L2H.unsuiteX q.1 okX, q.2⟩
      | brk => exact hsp.elim fun σ6 r => r.elim fun H6 q => ⟨σ6, H6, L2H.unsuiteX q.1 okX, q.2⟩
      | cont => exact hsp.elim fun σ6 r => r.elim fun H6 q => ⟨σ6, H6, L2H.unsuiteX q.1 okX, q.2⟩
      | ret u => exact hsp.elim fun v6 r => r.elim fun σ6 r => r.elim fun H6 q => ⟨v6, σ6, H6, L2H.unsuiteX q.1 okX, q.2⟩
    | false =>
      show wpAny _ X.A (handleBy (.ref a) X.env []) _ _ _
      refine wpAny_handleBy_nil ?_
      obtain ⟨_, _, _, o2, vs2, T, oT, tt, at2, _, data2, one2, _⟩ := fl2
      have goes : wpAny (model X.prog X.w) X.A (setFlight (.ref a) X.env.frame) (fun _ s4 => wpAny (model X.prog X.w) X.A (throw (.ref a) : Sem Flow) (SP X pins D) X.xe s4) X.xe { s' with heap := g2 } := by
        rw [hfm]
        refine HandSPX.setFlight_upZ (fly_more fl1 k2) fun g4 held u4 => wpAny_throw (tk _ _ ?_)
        refine ⟨a, B, sI, pins, σ', H', cls, d, rfl, J, ground, u2.trans u4, .inr (.inr ?_), noA, sameOs, bare, no rfl⟩
        rw [hst]
        exact ⟨held.1, held.2.1, held.2.2.1, L2H.tracedZ_imp (fun o z => z.zc) held.2.2.2⟩
      unfold PySem.passOn
      refine wpAny_bind (wpAny_field at2 data2 one2 ?_)
      rw [if_neg (by simp)]
      first
        | exact wpAny_bind (wpAny_pure (wpAny_bind goes))
        | exact wpAny_bind goes
  refine wpAny_mono ((hbody (wTst mt ts Wo D) (X.pn ++ pins) _ caught PassesOwn.looking).run [] s σ H D (I.toTry _) h) (fun f s1 hsp => ?_) (fun _ _ he => he)
  cases f with
  | next => exact hsp.elim fun σ6 r => r.elim fun H6 q => wpAny_execs_nil ⟨σ6, H6, q.1.ofTry okX, q.2⟩
  | brk => exact hsp.elim fun σ6 r => r.elim fun H6 q => ⟨σ6, H6, q.1.ofTry okX, q.2⟩
  | cont => exact hsp.elim fun σ6 r => r.elim fun H6 q => ⟨σ6, H6, q.1.ofTry okX, q.2⟩
  | ret u => exact hsp.elim fun v6 r => r.elim fun σ6 r => r.elim fun H6 q => ⟨v6, σ6, H6, q.1.ofTry okX, q.2⟩
end
end DL

/-! DLc: raise, try, the exception that a suite holds. -/
namespace DL
open PySem PySem.Spec PyProof.Rows L2

/-! ### raise X('text') -/
def dthrow (x : Str) : CS := fun ℓ => some (.ex ⟨x, none⟩, ℓ)
section
variable {X : Cx} {B : Fr0} {C : Addr} {bmB : List Value} {Bn newId initId : String} {x m : Str} {j : Nat} {p p2 pc pos : Pos}
theorem ds_raise (hc : X.calm = true) (tk : L2.Takes X B.W) (F : ExcBaseFacts Bn newId initId bmB) (q : PySem.W.excIn X.K C bmB newId = true) (gC : X.mg x = some (.ref C)) (kC : PySem.W.keepIn X.K (.ref C) = true)
    (r1 : PySem.W.subIn X.K (.ref C) (.type "BaseException") = some true) (r2 : PySem.W.typeIn X.K (.ref C) = some (.type "type")) (hg : Gl X x) (hdb : (x == ("__debug__" : Str)) = false := by decide) :
    DS X B (.Raise (some (.Call (.Name x p) [.Constant (.str m) j p2] [] pc)) none pos) (dthrow x) :=
  psImp (L2.ps_raise hc tk (L2.pmk_own F q gC kC (raises_own r1 r2) hg hdb)) fun D σ H ⟨F, ℓ, I, h⟩ => h (.ref C) none σ F H I (Same.refl _) ⟨C, gC, rfl, rfl⟩
theorem ds_raiseN (hc : X.calm = true) (tk : L2N.Takes X B.W) (F : ExcBaseFacts Bn newId initId bmB) (q : PySem.W.excIn X.K C bmB newId = true) (gC : X.mg x = some (.ref C)) (kC : PySem.W.keepIn X.K (.ref C) = true)
    (r1 : PySem.W.subIn X.K (.ref C) (.type "BaseException") = some true) (r2 : PySem.W.typeIn X.K (.ref C) = some (.type "type")) (hg : Gl X x) (hdb : (x == ("__debug__" : Str)) = false := by decide) :
    DS X B (.Raise (some (.Call (.Name x p) [.Constant (.str m) j p2] [] pc)) none pos) (dthrow x) :=
  psImp (L2N.ps_raise hc tk (L2N.pmk_own F q gC kC (raises_own r1 r2) hg hdb)) fun D σ H ⟨F, ℓ, I, h⟩ => h (.ref C) none σ F H I (Same.refl _) ⟨C, gC, rfl, rfl⟩
end

/-! ### an own exception with one field, set by its __init__ -/
def spI (K : PySem.W.Frag) (f : Str) : Sp := fun vs H Q _ => vs.length = 2 ∧ ∃ (a C : Addr) (y : V), vs = [.ref a, y] ∧ OexC K C ∧ PySem.W.findIn K (.ref C) f = some none ∧ H a = some (exo a C none) ∧
  ∀ dx, H dx = none → dx ≠ a → Q .non (upd (upd H dx (exd dx [(f, y)])) a (exo a C (some dx)))
section
variable {P : Program} {w : World} {K : PySem.W.Frag} {mg : Str → Option Value} {base : Heap}
theorem init_body {X : Cx} {f : Str} {vs : List V} {H : Hp} {Q : VK} {E : XK} {px py p0 pos : Pos} {n0 n1 : Str} {N : List Str} (hK : X.K = K) (hN0 : X.N[0]? = some n0) (hN1 : X.N[1]? = some n1) (h0 : Vis X.env.scope n0) (h1 : Vis X.env.scope n1)
    (d0 : (n0 == ("__debug__" : Str)) = false) (d1 : (n1 == ("__debug__" : Str)) = false) (c0 : (n0 == ("__classdict__" : Str)) = false) (c1 : (n1 == ("__classdict__" : Str)) = false)
    (hs : swapsWith (.Name n1 py) (some (.Attribute (.Name n0 px) f p0)) pos.line X.env = pure false) (h : spI K f vs H Q E) :
    ∃ t : TS, PSs X [.Assign [.Attribute (.Name n0 px) f p0] (.Name n1 py) pos] t ∧ t { nx := fun _ H' => Q .non H', rt := Q } (L2.start N vs) H := by
  refine ⟨_, pss_one (ps_ost (pe_var hN0 h0 d0 c0) (pe_var hN1 h1 d1 c1) hs), ?_⟩
  obtain ⟨_, a, C, y, rfl, T, hno, ha, q⟩ := h
  subst hK
  exact ⟨y, rfl, .ref a, rfl, a, C, rfl, T, hno, .inl ⟨ha, q⟩⟩
theorem init_fn {CX : CXT} {qual f : Str} {st : Stmt} {fI : Addr} {fd : FuncData} {px py p0 pos : Pos} {n0 n1 : Str} {k : Nat} (F : L2.Fun K "__init__" qual st fI fd) (S : FnScope [n0, n1] [n0, n1] (defScope st)) (hb : defBody st = [.Assign [.Attribute (.Name n0 px) f p0] (.Name n1 py) pos])
    (d0 : (n0 == ("__debug__" : Str)) = false) (d1 : (n1 == ("__debug__" : Str)) = false) (c0 : (n0 == ("__classdict__" : Str)) = false) (c1 : (n1 == ("__classdict__" : Str)) = false) (v0 : Vis (defScope st) n0) (v1 : Vis (defScope st) n1)
    (hs : ∀ (cdv : Value) (L : Addr), swapsWith (.Name n1 py) (some (.Attribute (.Name n0 px) f p0)) pos.line (envOfC qual (defScope st) L fI cdv) = pure false) : FnOk P w K mg base CX (k + 1) fI fd [n0, n1] (spI K f) := by
  obtain ⟨oc, od, kV, doc, pm, an, cdv, ct, osl, rfl, lk, hcd⟩ := F.ex
  refine fn_of lk hcd S (fun vs H Q E h => h.1) fun A outer s H vs Q E hr h => ?_
  rw [hb]
  exact init_body (X := cxOf CX P w K mg base [n0, n1] qual (defScope st) fI cdv A outer s H E) rfl rfl rfl v0 v1 d0 d1 c0 c1 (hs cdv _) h
theorem init_fnH {CX : CXT} {qual f : Str} {st : Stmt} {fI : Addr} {fd : FuncData} {px py p0 pos : Pos} {n0 n1 : Str} {k : Nat} (F : L2.Fun K "__init__" qual st fI fd) (S : FnScope [n0, n1] [n0, n1] (defScope st)) (hb : defBody st = [.Assign [.Attribute (.Name n0 px) f p0] (.Name n1 py) pos])
    (d0 : (n0 == ("__debug__" : Str)) = false) (d1 : (n1 == ("__debug__" : Str)) = false) (c0 : (n0 == ("__classdict__" : Str)) = false) (c1 : (n1 == ("__classdict__" : Str)) = false) (v0 : Vis (defScope st) n0) (v1 : Vis (defScope st) n1)
    (hs : ∀ (cdv : Value) (L : Addr), swapsWith (.Name n1 py) (some (.Attribute (.Name n0 px) f p0)) pos.line (envOfC qual (defScope st) L fI cdv) = pure false) : L2H.FnH P w K mg base CX (k + 1) fI fd [n0, n1] (spI K f) := by
  obtain ⟨oc, od, kV, doc, pm, an, cdv, ct, osl, rfl, lk, hcd⟩ := F.ex
  refine L2H.fn_ofH lk hcd S (fun vs H Q E h => h.1) fun A outer s H vs Q E pn hot hr h => ?_
  rw [hb]
  exact init_body (X := L2H.cxH CX P w K mg base [n0, n1] qual (defScope st) fI cdv A outer s H E pn) rfl rfl rfl v0 v1 d0 d1 c0 c1 (hs cdv _) h
end
def dthrowF (x f : Str) (t : CE) : CS := fun ℓ => match arg t ℓ with
  | none => none
  | some (.ex y ℓ1) => some (.ex y, ℓ1)
  | some (.ok w ℓ1) => match keepW ℓ1 w with
    | none => none
    | some (d, ℓ2) => some (.ex ⟨x, some (f, d)⟩, ℓ2)
section
variable {c : DC} {F F' H H' F1 H1 : Hp} {σ : L2.St} {ℓ ℓ' ℓ1 : LS} {Wx : WX}
theorem lift_dthrowF {x f : Str} {t : CE} {C : Addr} {D : Ends} (T : OexC c.K C) (hno : PySem.W.findIn c.K (.ref C) f = some none) (gC : c.mg x = some (.ref C)) (h : liftS c Wx (dthrowF x f t) D σ H) :
    tMkO C (spI c.K f) [] (tCons (lift c Wx t) tNil) σ H (fun cls d H' => Wx cls d σ H') := by
  obtain ⟨F, ℓ, I, p⟩ := h
  refine lift_arg ⟨F, ℓ, I, ?_⟩
  unfold dthrowF at p
  cases e : arg t ℓ with
  | none => rw [e] at p; exact p
  | some r =>
    rw [e] at p
    cases r with
    | ex y l => exact fun cls dd F' H' I' s' xr => p cls dd σ F' H' I' s' xr
    | ok w l =>
      intro v F1 H1 I1 s1 wr
      cases q : keepW l w with
      | none => simp only [q] at p; exact p.elim
      | some dl =>
        obtain ⟨d, l2⟩ := dl
        simp only [q] at p
        obtain ⟨F2, I2, s2, r2⟩ := keep_dp I1 (wr.wa (arg_nofr e)) q
        refine ⟨by simp, fun a ha => ⟨rfl, a, C, v, rfl, T, hno, upd_same, fun dx hdx ne => ⟨rfl, dx, [(f, v)], upd_same, ?_, ?_, ?_⟩⟩⟩
        · rw [upd_ne ne, upd_same]
        · rw [upd_ne ne] at hdx; exact hdx
        · have hd1 : H1 dx = none := by rw [upd_ne ne] at hdx; exact hdx
          have e1 : upd (del (upd (upd (upd H1 a (exo a C none)) dx (exd dx [(f, v)])) a (exo a C (some dx))) a) dx (.xd [(f, v)]) = upd H1 dx (.xd [(f, v)]) := by
            funext b
            by_cases hb : b = dx
            · subst hb; rw [upd_same, upd_same]
            · rw [upd_ne hb, upd_ne hb]
              by_cases hba : b = a
              · subst hba; rw [del_same, ha]
              · rw [del_ne hba, upd_ne hba, upd_ne hb, upd_ne hba]
          rw [e1]
          exact p (.ref C) (some dx) σ F2 _ (I2.new hd1) (s1.trans s2) ⟨C, gC, rfl, dx, v, rfl, upd_same, r2⟩
end
section
variable {X : Cx} {B : Fr0} {C fI : Addr} {x f : Str} {e : Expr} {t : CE} {p pc pos : Pos} {k : Nat} {fd : FuncData} {ps : List Str}
theorem ds_raiseF {CX : CXT} (hc : X.calm = true) (tk : L2.Takes X B.W) (T : OexC X.K C) (hno : PySem.W.findIn X.K (.ref C) f = some none) (iC : PySem.W.findIn X.K (.ref C) "__init__" = some (some (.ref fI))) (tI : PySem.W.typeIn X.K (.ref fI) = some (.type "function"))
    (G : FnOk X.prog X.w X.K X.mg X.base CX k fI fd ps (spI X.K f)) (hr : Room (k + 1) X.A) (hb : Binds X.K fd ps []) (hx : Passes CX X (fun _ _ _ => False)) (hg : Gl X x) (hm : X.mg x = some (.ref C)) (ha : DE X B e t)
    (hdb : (x == ("__debug__" : Str)) = false := by decide) (he : starEach [e] X.env = (false, eval e X.env) :: starEach [] X.env := by rfl) :
    DS X B (.Raise (some (.Call (.Name x p) [e] [] pc)) none pos) (dthrowF x f t) :=
  psImp (L2.ps_raise hc tk (pmk_oex T iC tI G hr hb .nil hx hg hm (pa_cons ha pa_nil he) hdb he)) fun D σ H h => lift_dthrowF T hno hm h
/-- in an except suite, from None -/
theorem ds_raiseFH {CX : CXT} {j : Nat} {cp : Pos} (hot : L2H.HotC X) (tk : L2.Takes X B.W) (T : OexC X.K C) (hno : PySem.W.findIn X.K (.ref C) f = some none) (iC : PySem.W.findIn X.K (.ref C) "__init__" = some (some (.ref fI))) (tI : PySem.W.typeIn X.K (.ref fI) = some (.type "function"))
    (G : L2H.FnH X.prog X.w X.K X.mg X.base CX k fI fd ps (spI X.K f)) (hr : L2H.RoomH (k + 1) X.A) (hb : Binds X.K fd ps []) (hx : Passes CX X (fun _ _ _ => False)) (hg : Gl X x) (hm : X.mg x = some (.ref C)) (ha : DE X B e t)
    (hdb : (x == ("__debug__" : Str)) = false := by decide) (he : starEach [e] X.env = (false, eval e X.env) :: starEach [] X.env := by rfl) :
    DS X B (.Raise (some (.Call (.Name x p) [e] [] pc)) (some (.Constant .none j cp)) pos) (dthrowF x f t) :=
  psImp (L2H.ps_raiseHN hot tk (L2H.pmk5_oexH T iC tI G hr hot hb hx hg hm (pa_cons ha pa_nil he) hdb he)) fun D σ H h => lift_dthrowF T hno hm h
end

/-! ### try -/
/-- one clause; isA: does it name that class -/
def dtry (tb : CS) (isA : Str → Option Bool) (u : CS) : CS := fun ℓ => match tb ℓ with
  | some (.ex x, ℓ1) => (match isA x.cls with
    | none => none
    | some true => u ℓ1
    | some false => some (.ex x, ℓ1))
  | r => r
/-- what isA must say truly -/
def IsA (mg : Str → Option Value) (mt : Value → Option Bool) (isA : Str → Option Bool) : Prop := ∀ n C b, mg n = some (.ref C) → isA n = some b → mt (.ref C) = some b
section
variable {c : DC} {F F' H H' F1 H1 : Hp} {σ : L2.St} {ℓ ℓ' ℓ1 : LS} {Wx : WX}
theorem lift_dtry {tb u : CS} {isA : Str → Option Bool} {mt : Value → Option Bool} {ts : Addr → Value → Option Addr → TS} {D : Ends} (hA : IsA c.mg mt isA) (hu : ∀ a cls d σ H, liftS c Wx u D σ H → ts a cls d D σ H) (h : liftS c Wx (dtry tb isA u) D σ H) :
    liftS c (wTst mt ts Wx D) tb D σ H := by
  obtain ⟨F, ℓ, I, p⟩ := h
  refine ⟨F, ℓ, I, ?_⟩
  unfold dtry at p
  cases e : tb ℓ with
  | none => rw [e] at p; exact p
  | some r =>
    rw [e] at p
    obtain ⟨f, l⟩ := r
    cases f with
    | nx => exact p
    | bk => exact p
    | ct => exact p
    | rt w => exact p
    | ex x =>
      intro cls dd σ' F' H' I' s' xr
      simp only at p
      cases q : isA x.cls with
      | none => simp only [q] at p; exact p.elim
      | some b =>
        obtain ⟨C, h1, rfl, h3⟩ := id xr
        refine ⟨b, hA _ _ _ h1 q, fun hb a _ => ?_, fun hb => ?_⟩
        · subst hb
          simp only [q] at p
          exact hu a _ dd σ' H' ⟨F', l, I', PostS.mono s' p⟩
        · subst hb
          simp only [q] at p
          exact p _ dd σ' F' H' I' s' xr
end
section
variable {X : Cx} {B : Fr0} {te : Expr} {mt : Value → Option Bool} {isA : Str → Option Bool} {body suite : List Stmt} {st0 : Stmt} {pc pos : Pos} {tb u : CS}
/-- the body's exceptions have no context, the suite may raise -/
theorem ds_tryR (hst : X.stack = X.env :: X.outer) (hfm : X.env.frame = some X.env.locals) (hT : Tst X te mt) (hA : IsA X.mg mt isA) (own : ∀ hd : Option Value, PassesOwnAt (model X.prog X.w) (X.A.mark hd) X.A X.env X.xe) (tk : L2.Takes X B.W)
    (hbody : ∀ (W : WX) (pn : List (Addr × Obj)) (xe : Value → Shared → Prop), L2N.Takes (X.tr pn xe) W → PassesOwn (model X.prog X.w) X.A X.env xe → DSs (X.tr pn xe) { B with W := W } body tb)
    (hsuite : ∀ (a : Addr) (oe : Obj) (cls : Value) (d : Option Addr) (pn : List (Addr × Obj)), L2.Takes (L2H.suiteX X a ((a, oe) :: pn)) B.W → L2H.HotC (L2H.suiteX X a ((a, oe) :: pn)) → DSs (L2H.suiteX X a ((a, oe) :: pn)) B (st0 :: suite) u) :
    DS X B (.Try body [.ExceptHandler (some te) none (st0 :: suite) pc] [] [] pos) (dtry tb isA u) :=
  psImp (ps_tryR (tb := fun W => liftS (cX X B) W tb) (ts := fun _ _ _ => liftS (cX X B) B.W u) (Wo := B.W) hst hfm hT own tk (fun W pn xe t o => hbody W pn xe t o) fun a oe cls d pn _ _ t h => hsuite a oe cls d pn t h) fun D σ H h =>
    lift_dtry (c := cX X B) (mt := mt) hA (fun _ _ _ _ _ h => h) h
end
end DL

/-! DLd: except C as e, what is asked of e. -/
namespace DL
open PySem PySem.Spec PyProof.Rows L2

def unX1 : L → L
  | .xc => .un
  | l => l
def unX (ℓ : LS) : LS := ℓ.map unX1
def dtryAs (tb : CS) (isA : Str → Option Bool) (i : Nat) (u : EX → CS) : CS := fun ℓ => match tb ℓ with
  | some (.ex x, ℓ1) => (match isA x.cls with
    | none => none
    | some true => (match u x (ℓ1.set i .xc) with
      | some (.nx, ℓ2) => some (.nx, (unX ℓ2).set i .un)
      | some (.bk, ℓ2) => some (.bk, (unX ℓ2).set i .un)
      | some (.ct, ℓ2) => some (.ct, (unX ℓ2).set i .un)
      | some (.rt w, ℓ2) => some (.rt w, unX ℓ2)
      | _ => none)
    | some false => some (.ex x, ℓ1))
  | r => r
section
variable {c : DC} {F F' H H' F1 H1 : Hp} {σ : L2.St} {ℓ ℓ' ℓ1 : LS} {Wx : WX}
theorem unX_im {i : Nat} {d : D} (h : (unX ℓ)[i]? = some (.im d)) : ℓ[i]? = some (.im d) := by
  unfold unX at h
  rw [List.getElem?_map] at h
  cases e : ℓ[i]? with
  | none => rw [e] at h; cases h
  | some l => rw [e] at h; cases l <;> cases h; rfl
theorem unX_ow {i : Nat} {d : List D} : (unX ℓ)[i]? = some (.ow d) ↔ ℓ[i]? = some (.ow d) := by
  unfold unX
  rw [List.getElem?_map]
  cases e : ℓ[i]? with
  | none => simp
  | some l => cases l <;> simp [unX1]
theorem unX_xc {i : Nat} : (unX ℓ)[i]? ≠ some .xc := by
  intro h
  unfold unX at h
  rw [List.getElem?_map] at h
  cases e : ℓ[i]? with
  | none => rw [e] at h; cases h
  | some l => rw [e] at h; cases l <;> cases h
theorem DI.unX {q : XQ} (hc : c.xq = none) (I : DI { c with xq := some q } F H σ ℓ) : DI c F H σ (unX ℓ) where
  sub := I.sub
  ent := I.ent
  old := I.old
  ge := I.ge
  len := by unfold DL.unX; rw [List.length_map]; exact I.len
  im := fun i d h => I.im i d (unX_im h)
  ow := fun i ds h => I.ow i ds (unX_ow.mp h)
  dis := fun i j a ds es h1 h2 => I.dis i j a ds es (unX_ow.mp h1) (unX_ow.mp h2)
  xs := fun i h => absurd h unX_xc
  xr := fun q e => by rw [hc] at e; cases e
theorem DI.onX {q : XQ} {i : Nat} (hc : c.xq = none) (hx : XR c F H q.x q.cls q.dd) (I : DI c F H σ ℓ) : DI { c with xq := some q } F H (σ.set i (some (.ref q.a))) (ℓ.set i .xc) where
  sub := I.sub
  ent := I.ent
  old := I.old
  ge := I.ge
  len := by rw [List.length_set, List.length_set]; exact I.len
  im := fun j d h => by
    by_cases hj : j = i
    · subst hj
      have hl : j < ℓ.length := by have := (List.getElem?_eq_some_iff.mp h).1; simpa using this
      rw [List.getElem?_set_self hl] at h; cases h
    · rw [List.getElem?_set_ne (Ne.symm hj)] at h ⊢
      exact I.im j d h
  ow := fun j d h => by
    by_cases hj : j = i
    · subst hj
      have hl : j < ℓ.length := by have := (List.getElem?_eq_some_iff.mp h).1; simpa using this
      rw [List.getElem?_set_self hl] at h; cases h
    · rw [List.getElem?_set_ne (Ne.symm hj)] at h ⊢
      exact I.ow j d h
  dis := fun j k a ds es q1 q2 z1 z2 => by
    have ne : ∀ (m : Nat) (es : List D), (ℓ.set i .xc)[m]? = some (.ow es) → m ≠ i ∧ ℓ[m]? = some (.ow es) := fun m es w => by
      by_cases hm : m = i
      · subst hm
        have hl : m < ℓ.length := by have := (List.getElem?_eq_some_iff.mp w).1; simpa using this
        rw [List.getElem?_set_self hl] at w; cases w
      · rw [List.getElem?_set_ne (Ne.symm hm)] at w; exact ⟨hm, w⟩
    obtain ⟨n1, e1⟩ := ne j ds q1
    obtain ⟨n2, e2⟩ := ne k es q2
    rw [List.getElem?_set_ne (Ne.symm n1)] at z1
    rw [List.getElem?_set_ne (Ne.symm n2)] at z2
    exact I.dis j k a ds es e1 e2 z1 z2
  xs := fun j h => by
    by_cases hj : j = i
    · subst hj
      have hl : j < ℓ.length := by have := (List.getElem?_eq_some_iff.mp h).1; simpa using this
      exact ⟨q, rfl, List.getElem?_set_self (by rw [← I.len]; exact hl)⟩
    · rw [List.getElem?_set_ne (Ne.symm hj)] at h
      obtain ⟨q', e, _⟩ := I.xs j h
      rw [hc] at e; cases e
  xr := fun q' e => by cases e; exact hx
theorem WR.unX {q : XQ} {w : W} {v : V} (h : WR { c with xq := some q } F H σ ℓ w v) : WR c F H σ (unX ℓ) w v := by
  cases w with
  | d d => exact h
  | o i => exact ⟨h.1, h.2.elim fun ds z => ⟨ds, unX_ow.mpr z⟩⟩
  | fr ds =>
    obtain ⟨a, vs, h1, h2, h3, h4, h5, h6⟩ := h
    exact ⟨a, vs, h1, h2, h3, h4, h5, fun i es z => h6 i es (unX_ow.mp z)⟩
theorem lift_dtryAs {tb : CS} {u : EX → CS} {i : Nat} {isA : Str → Option Bool} {cv : Value} {ts : Addr → Value → Option Addr → TS} {D : Ends} (hc : c.xq = none) (hA : IsA c.mg (fun cls => PySem.W.exmOne c.K cls cv) isA)
    (hu : ∀ a cls d x D σ H, liftS { c with xq := some ⟨a, x, cls, d⟩ } (fun _ _ _ _ => False) (u x) D σ H → ts a cls d D σ H) (h : liftS c Wx (dtryAs tb isA i u) D σ H) :
    liftS c (wAs c.K cv i ts Wx D) tb D σ H := by
  obtain ⟨F, ℓ, I, p⟩ := h
  refine ⟨F, ℓ, I, ?_⟩
  unfold dtryAs at p
  cases e : tb ℓ with
  | none => rw [e] at p; exact p
  | some r =>
    rw [e] at p
    obtain ⟨f, l⟩ := r
    cases f with
    | nx => exact p
    | bk => exact p
    | ct => exact p
    | rt w => exact p
    | ex x =>
      intro cls dd σ' F' H' I' s' xr
      simp only at p
      cases q : isA x.cls with
      | none => simp only [q] at p; exact p.elim
      | some b =>
        obtain ⟨C, h1, rfl, h3⟩ := id xr
        refine ⟨b, hA _ _ _ h1 q, fun hb a _ => ?_, fun hb => ?_⟩
        · subst hb
          simp only [q] at p
          refine hu a _ dd x _ _ _ ⟨F', l.set i .xc, I'.onX (q := ⟨a, x, .ref C, dd⟩) hc xr, ?_⟩
          cases e2 : u x (l.set i .xc) with
          | none => simp only [e2] at p; exact p.elim
          | some r2 =>
            obtain ⟨f2, l2⟩ := r2
            simp only [e2] at p
            cases f2 with
            | nx => exact fun σ2 F2 H2 I2 s2 => p _ F2 H2 ((I2.unX hc).setUn none) (s'.trans s2)
            | bk => exact fun σ2 F2 H2 I2 s2 => p _ F2 H2 ((I2.unX hc).setUn none) (s'.trans s2)
            | ct => exact fun σ2 F2 H2 I2 s2 => p _ F2 H2 ((I2.unX hc).setUn none) (s'.trans s2)
            | rt w => exact fun v σ2 F2 H2 I2 s2 wr => p v σ2 F2 H2 (I2.unX hc) (s'.trans s2) wr.unX
            | ex y => exact p.elim
        · subst hb
          simp only [q] at p
          exact p _ dd σ' F' H' I' s' xr
end
section
variable {X : Cx} {B : Fr0} {x n : Str} {cv : Value} {isA : Str → Option Bool} {i : Nat} {body suite : List Stmt} {st0 : Stmt} {np pc pos : Pos} {tb : CS} {u : EX → CS}
theorem pssEx {α : Type} {t : α → TS} {ss : List Stmt} (h : ∀ x, PSs X ss (t x)) : PSs X ss (fun D σ H => ∃ x, t x D σ H) := ⟨fun pins s σ H D I ⟨x, q⟩ => (h x).run pins s σ H D I q⟩
theorem ds_tryAs (hst : X.stack = X.env :: X.outer) (hfm : X.env.frame = some X.env.locals) (hN : X.N.Nodup) (hi : X.N[i]? = some n) (hln : X.env.kindOf n = some .local) (hc : Names X x cv) (tk : L2.Takes X B.W) (hq : B.xq = none) (hA : IsA X.mg (fun cls => PySem.W.exmOne X.K cls cv) isA)
    (hbody : ∀ (W : WX) (pn : List (Addr × Obj)) (xe : Value → Shared → Prop), L2.Takes (X.tr pn xe) W → PassesOwn (model X.prog X.w) X.A X.env xe → DSs (X.tr pn xe) { B with W := W } body tb)
    (hsuite : ∀ (a : Addr) (oe : Obj) (cls : Value) (d : Option Addr) (pn : List (Addr × Obj)) (y : EX), Zc cls d oe → (∃ vs, oe.data = .fields vs) → DSs (X.suite a ((a, oe) :: pn)) { B with W := fun _ _ _ _ => False, xq := some ⟨a, y, cls, d⟩ } (st0 :: suite) (u y)) :
    DS X B (.Try body [.ExceptHandler (some (.Name x np)) (some n) (st0 :: suite) pc] [] [] pos) (dtryAs tb isA i u) :=
  psImp (L2.ps_try_as (i := i) (tb := fun W => liftS (cX X B) W tb) (ts := fun a cls d D σ H => ∃ y, liftS { cX X B with xq := some ⟨a, y, cls, d⟩ } (fun _ _ _ _ => False) (u y) D σ H) (Wout := B.W) hst hfm hN hi hln hc tk (fun W pn xe t o => hbody W pn xe t o)
    fun a oe cls d pn z f => pssEx fun y => hsuite a oe cls d pn y z f) fun D σ H h => lift_dtryAs (c := cX X B) hq hA (fun a cls d y D σ H h => ⟨y, h⟩) h
end

/-! ### what is asked of the exception -/
/-- isinstance(e, C) -/
def disE (r : Option Bool) (i : Nat) : CE := fun ℓ => match ℓ[i]?, r with
  | some .xc, some b => some (.ok (.d (.bool b)) ℓ)
  | _, _ => none
/-- e.f -/
def dxf (x : EX) (f : Str) (isF : Str → Bool) (i : Nat) : CE := fun ℓ => match ℓ[i]?, x.fld with
  | some .xc, some (g, d) => if g = f ∧ isF x.cls = true then some (.ok (.d d) ℓ) else none
  | _, _ => none
/-- what a class must say, so that isinstance asks its instances rightly; what isB must say truly -/
def IsB (K : PySem.W.Frag) (mg : Str → Option Value) (cv : Value) (isB : Str → Option Bool) : Prop := ∀ n D b, mg n = some (.ref D) → isB n = some b → ExcC K D ∧ PySem.W.kitOne K (.ref D) cv = some b
def IsF (K : PySem.W.Frag) (mg : Str → Option Value) (f : Str) (isF : Str → Bool) : Prop := ∀ n D, mg n = some (.ref D) → isF n = true → XfC K D ∧ PySem.W.findIn K (.ref D) f = some none
theorem clsIn_of {K : PySem.W.Frag} {D : Addr} (h : PySem.W.hasDictIn K D = true) : (PySem.W.clsIn K D).isSome = true := by
  obtain ⟨cd, hc, _⟩ := PySem.W.any_some h
  rw [hc]; rfl
section
variable {X : Cx} {a D : Addr} {oe : Obj} {pn : List (Addr × Obj)} {d : Option Addr}
/-- isinstance(e, c), e with a dict or none -/
theorem call_isX (C : ExcC X.K D) (hz : Zc (.ref D) d oe) (hf : ∃ vs, oe.data = .fields vs) : CallR (X.suite a ((a, oe) :: pn)) (.builtin "isinstance")
    (fun xs H Q => ∃ (c : V) (cv : Value) (b : Bool), xs = [.ref a, c] ∧ (∀ u, RelV c u → u = cv) ∧ PySem.W.kitOne X.K (.ref D) cv = some b ∧ (∀ dd, d = some dd → ∃ fs, H dd = some (.xd fs)) ∧ Q (.bl b) H) := by
  intro pins s σ H xs us Q I r h
  obtain ⟨c, cv, b, rfl, only, e, hd, q⟩ := h
  obtain ⟨u1, u2, rfl, r1, r2⟩ := vals2 r
  obtain rfl : u1 = Value.ref a := r1
  obtain rfl := only _ r2
  obtain ⟨held, _⟩ := I.pin (a, oe) (List.mem_append.mpr (.inl List.mem_cons_self))
  obtain ⟨vs, hv⟩ := hf
  have inst : ∃ od, PySem.W.InstAt s.heap a oe D od := by
    have nc : PySem.W.notCls oe = true := by unfold PySem.W.notCls; rw [hv]
    cases d with
    | none => exact ⟨none, held, hz.1, nc, by rw [hz.2]; trivial⟩
    | some dd =>
      obtain ⟨fs, g⟩ := hd dd rfl
      obtain ⟨mA, hns, _⟩ := (show ObjOk X.prog X.w H s.heap dd (.xd fs) from I.hok dd _ g)
      obtain ⟨od, ho, _⟩ := lookIn_ns hns
      exact ⟨some od, held, hz.1, nc, by rw [hz.2]; exact ho⟩
  obtain ⟨od, J⟩ := inst
  exact PySem.W.kia_one (PySem.W.kitx_exc (clsIn_of C.hd) C.hg C.hk C.hs C.ha C.hn C.ht C.hm) I.kIn J e (fun z => nomatch z) fun tk => ⟨.bl b, H, I.kept (t' := tk) fun _ _ z => z, rfl, q⟩
end
section
variable {X : Cx} {B : Fr0} {a : Addr} {oe : Obj} {pn : List (Addr × Obj)} {cls : Value} {d : Option Addr} {y : EX} {i : Nat} {n T f : Str} {v : V} {cv : Value} {isB : Str → Option Bool} {isF : Str → Bool} {p pe pT pos : Pos}
theorem de_isE (hz : Zc cls d oe) (hf : ∃ vs, oe.data = .fields vs) (hB : IsB X.K X.mg cv isB) (hT : PE (X.suite a ((a, oe) :: pn)) (.Name T pT) (tC v)) (only : ∀ u, RelV v u → u = cv) (hN : X.N[i]? = some n) (hg : Gl X "isinstance") (hm : X.mg "isinstance" = none) (hv : Vis X.env.scope n)
    (hd : (n == ("__debug__" : Str)) = false := by decide) (hcd : (n == ("__classdict__" : Str)) = false := by decide)
    (he : starEach [.Name n pe, .Name T pT] X.env = (false, eval (.Name n pe) X.env) :: starEach [.Name T pT] X.env := by rfl) (he2 : starEach [.Name T pT] X.env = (false, eval (.Name T pT) X.env) :: starEach [] X.env := by rfl) (hpl : (backTo pos (starEach [.Name T pT] X.env)).any (·.1) = false := by rfl) :
    DE (X.suite a ((a, oe) :: pn)) { B with W := fun _ _ _ _ => False, xq := some ⟨a, y, cls, d⟩ } (.Call (.Name "isinstance" p) [.Name n pe, .Name T pT] [] pos) (disE (isB y.cls) i) := by
  refine ⟨fun pins s σ H Q I h => ?_⟩
  obtain ⟨F, ℓ, J, w⟩ := h
  unfold disE at w
  cases e1 : ℓ[i]? with
  | none => simp only [e1] at w; exact w.elim
  | some l =>
    cases l with
    | un => simp only [e1] at w; exact w.elim
    | im _ => simp only [e1] at w; exact w.elim
    | ow _ => simp only [e1] at w; exact w.elim
    | xc =>
      cases e2 : isB y.cls with
      | none => simp only [e1, e2] at w; exact w.elim
      | some b =>
        simp only [e1, e2] at w
        obtain ⟨q, eq, hs⟩ := J.xs i e1
        cases eq
        have xr := J.xr _ rfl
        obtain ⟨C, g1, g2, g3⟩ := id xr
        obtain rfl : cls = .ref C := g2
        obtain ⟨EC, kit⟩ := hB _ _ _ g1 e2
        have rule := pe_callB (X := X.suite a ((a, oe) :: pn)) (p := p) (pos := pos) (call_isX EC hz hf) hg hm rfl (pa_cons (pe_var (pos := pe) hN hv hd hcd) (pa_cons hT pa_nil he2) he) (by decide) (by decide) he hpl
        refine rule.run pins s σ H Q I ?_
        refine ⟨.ref a, hs, v, cv, b, rfl, only, kit, fun dd hdd => ?_, post_bool J w⟩
        subst hdd
        split at g3
        · cases g3
        · obtain ⟨b2, v2, k1, k2, _⟩ := g3
          cases k1
          exact ⟨_, k2⟩
theorem de_xf (hz : Zc cls d oe) (hf : ∃ vs, oe.data = .fields vs) (hF : IsF X.K X.mg f isF) (hN : X.N[i]? = some n) (hv : Vis X.env.scope n) (hd : (n == ("__debug__" : Str)) = false := by decide) (hcd : (n == ("__classdict__" : Str)) = false := by decide)
    (hb : attributeBase (.Name n pe) f X.env (eval (.Name n pe) X.env) = eval (.Name n pe) X.env := by rfl) :
    DE (X.suite a ((a, oe) :: pn)) { B with W := fun _ _ _ _ => False, xq := some ⟨a, y, cls, d⟩ } (.Attribute (.Name n pe) f pos) (dxf y f isF i) := by
  refine ⟨fun pins s σ H Q I h => ?_⟩
  obtain ⟨F, ℓ, J, w⟩ := h
  unfold dxf at w
  cases e1 : ℓ[i]? with
  | none => simp only [e1] at w; exact w.elim
  | some l =>
    cases l with
    | un => simp only [e1] at w; exact w.elim
    | im _ => simp only [e1] at w; exact w.elim
    | ow _ => simp only [e1] at w; exact w.elim
    | xc =>
      cases e2 : y.fld with
      | none => simp only [e1, e2] at w; exact w.elim
      | some gd =>
        obtain ⟨g, dv⟩ := gd
        simp only [e1, e2] at w
        by_cases hh : g = f ∧ isF y.cls = true
        · rw [if_pos hh] at w
          obtain ⟨rfl, h2⟩ := hh
          obtain ⟨q, eq, hs⟩ := J.xs i e1
          cases eq
          have xr := J.xr _ rfl
          obtain ⟨C, g1, g2, g3⟩ := id xr
          obtain rfl : cls = .ref C := g2
          obtain ⟨TX, hno⟩ := hF _ _ g1 h2
          simp only [e2] at g3
          obtain ⟨b2, v2, k1, k2, k3⟩ := g3
          refine (pe_xf (pn := pn) (pos := pos) TX hno hz hf (pe_var (X := X.suite a ((a, oe) :: pn)) (pos := pe) hN hv hd hcd) hb).run pins s σ H Q I ?_
          refine ⟨.ref a, hs, rfl, rfl, b2, _, v2, k1, k2, by simp [List.lookup], post_d J w k3⟩
        · rw [if_neg hh] at w; exact w.elim
end
end DL

/-! DLe: what stands of a program: its defs, its exceptions' classes, its globals. -/
namespace DL
open PySem PySem.Spec PyProof.Rows L2

/-! ### defs -/
structure Dok (P : Program) (w : World) (K : PySem.W.Frag) (mg : Str → Option Value) (base : Heap) (CX : CXT) (k : Nat) (x : Str) (ps : List Str) (m : List D → Option Rt) : Prop where
  ex : ∃ (f : Addr) (fd : FuncData), FnOk P w K mg base CX k f fd ps (spD K mg ps.length m) ∧ mg x = some (.ref f) ∧ PySem.W.keepIn K (.ref f) = true ∧ Binds K fd ps []
/-- the object of a def, as the top wrote it -/
structure Fdef (K : PySem.W.Frag) (mg : Str → Option Value) (x qual : Str) (st : Stmt) (ps : List Str) : Prop where
  ex : ∃ (f : Addr) (fd : FuncData), L2.Fun K x qual st f fd ∧ mg x = some (.ref f) ∧ Binds K fd ps []
section
variable {P : Program} {w : World} {K : PySem.W.Frag} {mg : Str → Option Value} {base : Heap}
theorem dokD {x qual : Str} {st : Stmt} {N ps : List Str} {k : Nat} {t : CS} (F : Fdef K mg x qual st ps) (S : FnScope N ps (defScope st)) (hps : ps.length ≤ N.length)
    (hbody : ∀ (f : Addr) (cdv : Value) (A : Around) (outer : List Env) (s : Shared) (H : Hp) (E : XK) (F0 : Hp), Room k (A.deeper (envOfC qual (defScope st) s.heap.objs.size f cdv)) →
      DSs (cxOf (L2.CX P w) P w K mg base N qual (defScope st) f cdv A outer s H E) ⟨F0, H, fun cls d _ H' => E cls d H', none⟩ (defBody st) t) : Dok P w K mg base (L2.CX P w) (k + 1) x ps (runD N.length t) := by
  obtain ⟨f, fd, G, hm, hb⟩ := F.ex
  exact ⟨f, fd, fnD G S hps (hbody f), hm, G.kp, hb⟩
theorem dokN {x qual : Str} {st : Stmt} {N ps : List Str} {k : Nat} {t : CS} (F : Fdef K mg x qual st ps) (S : FnScope N ps (defScope st)) (hps : ps.length ≤ N.length)
    (hbody : ∀ (f : Addr) (cdv : Value) (A : Around) (outer : List Env) (s : Shared) (H : Hp) (E : XK) (F0 : Hp), Room k (A.deeper (envOfC qual (defScope st) s.heap.objs.size f cdv)) →
      DSs (cxOf (L2N.CX P w) P w K mg base N qual (defScope st) f cdv A outer s H E) ⟨F0, H, fun cls d _ H' => E cls d H', none⟩ (defBody st) t) : Dok P w K mg base (L2N.CX P w) (k + 1) x ps (runD N.length t) := by
  obtain ⟨f, fd, G, hm, hb⟩ := F.ex
  exact ⟨f, fd, fnDN G S hps (hbody f), hm, G.kp, hb⟩
end
section
variable {X : Cx} {B : Fr0} {e : Expr} {es : List Expr} {CX : CXT} {k : Nat} {ps : List Str} {m : List D → Option Rt} {t : CA} {x : Str} {p pos : Pos}
theorem de_def (Dk : Dok X.prog X.w X.K X.mg X.base CX k x ps m) (hr : Room k X.A) (hx : ∀ σ, PassesAt CX X σ (WE B.W σ)) (hg : Gl X x) (ha : DA X B (e :: es) t) (hn : NA t ps.length) (hdb : (x == ("__debug__" : Str)) = false := by decide)
    (he : starEach (e :: es) X.env = (false, eval e X.env) :: starEach es X.env := by rfl) (hpl : (backTo pos (starEach es X.env)).any (·.1) = false := by rfl) : DE X B (.Call (.Name x p) (e :: es) [] pos) (dcall m t) := by
  obtain ⟨f, fd, G, hm, hk, hb⟩ := Dk.ex
  exact de_call G hr hx hg hm hk hb ha hn hdb he hpl
theorem takesF : L2.Takes X (fun _ _ _ _ => False) := takes_none5
theorem huOf (hr : Room k X.A) : X.A.units + 64 < cLine := by have := hr.un; omega
theorem huOf' (hr : Room k X.A) : X.A.units + 65 < cLine := by have := hr.un; omega
theorem huOfH (hr : L2H.RoomH k X.A) : X.A.units + 64 < cLine := by have := hr.un; omega
theorem huOfH' (hr : L2H.RoomH k X.A) : X.A.units + 65 < cLine := by have := hr.un; omega
end
/-! ### globals -/
section
variable {X : Cx} {B : Fr0} {x : Str} {pos : Pos}
theorem de_globI {i : Int} (hm : ∃ t, X.mg x = some (.int i t)) (hg : Gl X x) (hb : (x == ("__debug__" : Str)) = false := by decide) : DE X B (.Name x pos) (dk (.int i)) := by
  obtain ⟨t, hm⟩ := hm
  exact de_glob hg hm (v := .int i) ⟨t, rfl⟩ (fun _ => .int i) hb
theorem de_globS {i : Str} (hm : ∃ t, X.mg x = some (.str i t)) (hg : Gl X x) (hb : (x == ("__debug__" : Str)) = false := by decide) : DE X B (.Name x pos) (dk (.str i)) := by
  obtain ⟨t, hm⟩ := hm
  exact de_glob hg hm (v := .str i) ⟨t, rfl⟩ (fun _ => .str i) hb
end

/-! ### exceptions' classes -/
abbrev veB : List Value := [.type "ValueError", .type "Exception", .type "BaseException", .type "object"]
/-- made with a text -/
structure Ext (K : PySem.W.Frag) (mg : Str → Option Value) (x : Str) : Prop where
  ex : ∃ C : Addr, mg x = some (.ref C) ∧ PySem.W.excIn K C veB "ValueError.__new__" = true ∧ PySem.W.keepIn K (.ref C) = true ∧ PySem.W.subIn K (.ref C) (.type "BaseException") = some true ∧ PySem.W.typeIn K (.ref C) = some (.type "type")
/-- made with one field -/
structure Exf (P : Program) (w : World) (K : PySem.W.Frag) (mg : Str → Option Value) (base : Heap) (k : Nat) (x f : Str) : Prop where
  ex : ∃ (C fI : Addr) (fd : FuncData) (ps : List Str), mg x = some (.ref C) ∧ OexC K C ∧ PySem.W.findIn K (.ref C) f = some none ∧ PySem.W.findIn K (.ref C) "__init__" = some (some (.ref fI)) ∧ PySem.W.typeIn K (.ref fI) = some (.type "function") ∧
    FnOk P w K mg base (L2.CX P w) k fI fd ps (spI K f) ∧ L2H.FnH P w K mg base (L2.CX P w) k fI fd ps (spI K f) ∧ Binds K fd ps []
section
variable {X : Cx} {B : Fr0} {x m f : Str} {j : Nat} {p p2 pc pos cp : Pos} {e : Expr} {t : CE} {k : Nat}
theorem ds_thr (T : Ext X.K X.mg x) (hc : X.calm = true) (tk : L2.Takes X B.W) (hg : Gl X x) (hdb : (x == ("__debug__" : Str)) = false := by decide) : DS X B (.Raise (some (.Call (.Name x p) [.Constant (.str m) j p2] [] pc)) none pos) (dthrow x) := by
  obtain ⟨C, h1, h2, h3, h4, h5⟩ := T.ex
  exact ds_raise hc tk PySem.F.excBase_ValueError h2 h1 h3 h4 h5 hg hdb
theorem ds_thrN (T : Ext X.K X.mg x) (hc : X.calm = true) (tk : L2N.Takes X B.W) (hg : Gl X x) (hdb : (x == ("__debug__" : Str)) = false := by decide) : DS X B (.Raise (some (.Call (.Name x p) [.Constant (.str m) j p2] [] pc)) none pos) (dthrow x) := by
  obtain ⟨C, h1, h2, h3, h4, h5⟩ := T.ex
  exact ds_raiseN hc tk PySem.F.excBase_ValueError h2 h1 h3 h4 h5 hg hdb
theorem passF {E : XK} (hE : ∀ c d H, ¬ E c d H) : Passes (L2.CX X.prog X.w) X E := fun pins σ H s e s' _ h => by
  obtain ⟨a, B, H', cls, d, _, _, _, _, _, _, _, q⟩ := h
  exact absurd q (hE _ _ _)
theorem ds_thrF (T : Exf X.prog X.w X.K X.mg X.base k x f) (hc : X.calm = true) (tk : L2.Takes X B.W) (hr : Room (k + 1) X.A) (hg : Gl X x) (ha : DE X B e t) (hdb : (x == ("__debug__" : Str)) = false := by decide) (he : starEach [e] X.env = (false, eval e X.env) :: starEach [] X.env := by rfl) :
    DS X B (.Raise (some (.Call (.Name x p) [e] [] pc)) none pos) (dthrowF x f t) := by
  obtain ⟨C, fI, fd, ps, h1, h2, h3, h4, h5, h6, h7, h8⟩ := T.ex
  exact ds_raiseF hc tk h2 h3 h4 h5 h6 hr h8 (passF fun _ _ _ z => z) hg h1 ha hdb he
theorem ds_thrFH (T : Exf X.prog X.w X.K X.mg X.base k x f) (hot : L2H.HotC X) (tk : L2.Takes X B.W) (hr : L2H.RoomH (k + 1) X.A) (hg : Gl X x) (ha : DE X B e t) (hdb : (x == ("__debug__" : Str)) = false := by decide) (he : starEach [e] X.env = (false, eval e X.env) :: starEach [] X.env := by rfl) :
    DS X B (.Raise (some (.Call (.Name x p) [e] [] pc)) (some (.Constant .none j cp)) pos) (dthrowF x f t) := by
  obtain ⟨C, fI, fd, ps, h1, h2, h3, h4, h5, h6, h7, h8⟩ := T.ex
  exact ds_raiseFH hot tk h2 h3 h4 h5 h7 hr h8 (passF fun _ _ _ z => z) hg h1 ha hdb he
end
theorem exm_two {K : PySem.W.Frag} {cls c d : Value} {b1 b2 : Bool} (h1 : PySem.W.exmOne K cls c = some b1) (h2 : PySem.W.exmOne K cls d = some b2) : PySem.W.exmAny K cls [c, d] = some (b1 || b2) := by
  simp [PySem.W.exmAny, h1, h2]

theorem kit_own {K : PySem.W.Frag} {C E : Addr} {b : Bool} (h : PySem.W.subIn K (.ref C) (.ref E) = some b) (hs : PySem.W.subIn K (.ref C) (.ref C) = some true) (hd : PySem.W.hasDictIn K E = true) (ht : PySem.W.typeIn K (.ref E) = some (.type "type")) : PySem.W.kitOne K (.ref C) (.ref E) = some b := by
  unfold PySem.W.kitOne
  split
  · rename_i q
    have e : C = E := by simpa using q
    subst e
    rw [h] at hs
    exact hs.symm
  · unfold PySem.W.kitCls
    have hc := clsIn_of hd
    simp [hc, ht, h]
theorem kit_bt {K : PySem.W.Frag} {C : Addr} {T : String} {b : Bool} (hk : PySem.W.kitMeta T = true) (h : PySem.W.subIn K (.ref C) (.type T) = some b) : PySem.W.kitOne K (.ref C) (.type T) = some b := by
  unfold PySem.W.kitOne PySem.W.kitCls
  simp [hk, h]

/-! ### the law's end -/
def spLaw (K : PySem.W.Frag) (m : List D → Option Rt) : Sp := fun vs H Q _ => vs.length = 1 ∧ ∃ F ds, Same F H ∧ RpAll K F vs ds ∧ m ds = some (.d (.bool true)) ∧ ∀ H', Q (.bl true) H'
theorem fnImp {P : Program} {w : World} {K : PySem.W.Frag} {mg : Str → Option Value} {base : Heap} {CX : CXT} {k : Nat} {f : Addr} {fd : FuncData} {ps : List Str} {sp sp' : Sp} (G : FnOk P w K mg base CX k f fd ps sp) (h : ∀ vs H Q E, sp' vs H Q E → sp vs H Q E) : FnOk P w K mg base CX k f fd ps sp' :=
  ⟨fun vs H Q E q => G.len vs H Q E (h _ _ _ _ q), fun A outer s H args us vs Q E hr e0 b r q => G.run A outer s H args us vs Q E hr e0 b r (h _ _ _ _ q)⟩
theorem lawOk {P : Program} {w : World} {K : PySem.W.Frag} {mg : Str → Option Value} {base : Heap} {CX : CXT} {k : Nat} {f : Addr} {fd : FuncData} {x : Str} {m : List D → Option Rt} (G : FnOk P w K mg base CX k f fd [x] (spD K mg 1 m)) : FnOk P w K mg base CX k f fd [x] (spLaw K m) :=
  fnImp G fun vs H Q E ⟨hl, F, ds, hs, hr, hm, hq⟩ => ⟨hl, F, ds, hs, hr, by
    rw [hm]
    intro v F' H' g r
    rw [dp_bool r]
    exact hq H'⟩
/-- the script as data -/
theorem rp_script {K : PySem.W.Frag} {H : Hp} {a : Addr} {ns : List Int} (h : SqL K H a (ns.map V.int)) : RpAll K H [.ref a] [.list (ns.map .int)] := .cons (.lst h (rpInts ns)) .nil
end DL

namespace K10
open PySem PySem.Spec PyProof.Rows L2 DL
def top (i : Nat) : Stmt := PySem.Challenge.pw_markscale_k10_cells_as_texts.main.body.getD i (.Pass ⟨0, 0, 0, 0⟩)
def isA_NoNumber_NoDay : Str → Option Bool := fun n => if n = "NoDay" then some true else if n = "NoNumber" then some true else if n = "NoTable" then some false else none
def isA_NoTable : Str → Option Bool := fun n => if n = "NoDay" then some false else if n = "NoNumber" then some false else if n = "NoTable" then some true else none
def isB_MarkError : Str → Option Bool := fun n => if n = "NoDay" then some true else if n = "NoNumber" then some true else if n = "NoTable" then some true else none
def isB_NoDay : Str → Option Bool := fun n => if n = "NoDay" then some true else if n = "NoNumber" then some false else if n = "NoTable" then some false else none
def isB_NoNumber : Str → Option Bool := fun n => if n = "NoDay" then some false else if n = "NoNumber" then some true else if n = "NoTable" then some false else none
def isB_ValueError : Str → Option Bool := fun n => if n = "NoDay" then some true else if n = "NoNumber" then some true else if n = "NoTable" then some true else none
def isF_row : Str → Bool := fun n => decide (n = "NoTable")
structure Txt (P : Program) (w : World) (K : PySem.W.Frag) (mg : Str → Option Value) (base : Heap) : Prop where
  b_ValueError : mg "ValueError" = none
  b_abs : mg "abs" = none
  b_all : mg "all" = none
  b_bool : mg "bool" = none
  b_int : mg "int" = none
  b_isinstance : mg "isinstance" = none
  b_len : mg "len" = none
  b_range : mg "range" = none
  b_str : mg "str" = none
  b_sum : mg "sum" = none
  b_tuple : mg "tuple" = none
  g_FIGURES_days : ∃ t, mg "FIGURES_days" = some (.str "0123456789" t)
  g_FIGURES_figures : ∃ t, mg "FIGURES_figures" = some (.str "0123456789" t)
  g_LAST : ∃ t, mg "LAST" = some (.int 3652058 t)
  g_LETTERS : ∃ t, mg "LETTERS" = some (.str "abcdefghijklmnopqrstuvwxyz" t)
  g_MOST : ∃ t, mg "MOST" = some (.int 60 t)
  T_NoDay : Ext K mg "NoDay"
  T_NoNumber : Ext K mg "NoNumber"
  X_NoTable : Exf P w K mg base 1 "NoTable" "row"
  A0_NoNumber_NoDay : ∃ C0 C1 : Addr, mg "NoNumber" = some (.ref C0) ∧ mg "NoDay" = some (.ref C1) ∧ IsA mg (fun cls => PySem.W.exmAny K cls [.ref C0, .ref C1]) isA_NoNumber_NoDay
  N0_NoTable : ∃ C : Addr, mg "NoTable" = some (.ref C) ∧ IsA mg (fun cls => PySem.W.exmOne K cls (.ref C)) isA_NoTable
  E0_MarkError : ∃ C : Addr, mg "MarkError" = some (.ref C) ∧ IsB K mg (.ref C) isB_MarkError
  E0_NoDay : ∃ C : Addr, mg "NoDay" = some (.ref C) ∧ IsB K mg (.ref C) isB_NoDay
  E0_NoNumber : ∃ C : Addr, mg "NoNumber" = some (.ref C) ∧ IsB K mg (.ref C) isB_NoNumber
  B_ValueError : IsB K mg (.type "ValueError") isB_ValueError
  F_row : IsF K mg "row" isF_row
section
variable {P : Program} {w : World} {K : PySem.W.Frag} {mg : Str → Option Value} {base : Heap}
theorem Txt.A_NoNumber_NoDay {α : Prop} (Tx : Txt P w K mg base) (h : ∀ C D : Addr, mg "NoNumber" = some (.ref C) → mg "NoDay" = some (.ref D) → IsA mg (fun cls => PySem.W.exmAny K cls [.ref C, .ref D]) isA_NoNumber_NoDay → α) : α := by
  obtain ⟨C0, C1, h1, h2, h3⟩ := Tx.A0_NoNumber_NoDay
  exact h _ _ h1 h2 h3
theorem Txt.N_NoTable {α : Prop} (Tx : Txt P w K mg base) (h : ∀ C : Value, mg "NoTable" = some C → IsA mg (fun cls => PySem.W.exmOne K cls C) isA_NoTable → α) : α := by
  obtain ⟨C, h1, h2⟩ := Tx.N0_NoTable
  exact h _ h1 h2
theorem Txt.E_MarkError {α : Prop} (Tx : Txt P w K mg base) (h : ∀ C : Addr, mg "MarkError" = some (.ref C) → IsB K mg (.ref C) isB_MarkError → α) : α := by
  obtain ⟨C, h1, h2⟩ := Tx.E0_MarkError
  exact h C h1 h2
theorem Txt.E_NoDay {α : Prop} (Tx : Txt P w K mg base) (h : ∀ C : Addr, mg "NoDay" = some (.ref C) → IsB K mg (.ref C) isB_NoDay → α) : α := by
  obtain ⟨C, h1, h2⟩ := Tx.E0_NoDay
  exact h C h1 h2
theorem Txt.E_NoNumber {α : Prop} (Tx : Txt P w K mg base) (h : ∀ C : Addr, mg "NoNumber" = some (.ref C) → IsB K mg (.ref C) isB_NoNumber → α) : α := by
  obtain ⟨C, h1, h2⟩ := Tx.E0_NoNumber
  exact h C h1 h2
/-! is_whole -/
abbrev s_iswhole : Stmt := top 6
noncomputable def t_iswhole : CS := (dret (dandV (disi "int" (dv 0)) (dnotV (disi "bool" (dv 0)))))
noncomputable def m_iswhole : List D → Option Rt := runD 1 t_iswhole
theorem sc_iswhole : FnScope ["thing"] ["thing"] (defScope s_iswhole) := ⟨rfl, rfl, rfl, by decide +kernel, rfl, by decide +kernel, by decide +kernel⟩
theorem ok_iswhole (Tx : Txt P w K mg base) (F : Fdef K mg "is_whole" "is_whole" s_iswhole ["thing"])  : Dok P w K mg base (L2N.CX P w) 1 "is_whole" ["thing"] m_iswhole :=
  dokN F sc_iswhole (by decide) fun f cdv A outer s H E F0 hr => (dss_one (ds_ret (de_and (de_isi kitT_int rfl rfl Tx.b_isinstance rfl Tx.b_int (de_var 0)) (de_one (de_not (de_isi kitT_bool rfl rfl Tx.b_isinstance rfl Tx.b_bool (de_var 0)))))))
/-! divisor -/
abbrev s_divisor : Stmt := top 7
noncomputable def t_divisor : CS := (dseq (dwhile (dtv (d2 fNe (dv 1) (dk (.int 0)))) (dpar 0 1 (dcons (dv 1) (dcons (d2 fMod (dv 0) (dv 1)) dnil)))) (dret (dbi fAbs (dcons (dv 0) dnil))))
noncomputable def m_divisor : List D → Option Rt := runD 2 t_divisor
theorem sc_divisor : FnScope ["one", "other"] ["one", "other"] (defScope s_divisor) := ⟨rfl, rfl, rfl, by decide +kernel, rfl, by decide +kernel, by decide +kernel⟩
theorem ok_divisor (Tx : Txt P w K mg base) (F : Fdef K mg "divisor" "divisor" s_divisor ["one", "other"])  : Dok P w K mg base (L2N.CX P w) 1 "divisor" ["one", "other"] m_divisor :=
  dokN F sc_divisor (by decide) fun f cdv A outer s H E F0 hr => (dss_cons (ds_while (L2.passes_of rfl) (dt_ne (huOf hr) (de_var 1) de_int) (dss_one (ds_par (i := 0) (j := 1) rfl sc_divisor.nd rfl rfl (by decide) rfl rfl (da_cons (de_var 1) (da_cons (de_mod (de_var 0) (de_var 1)) da_nil)) rfl))) (dss_one (ds_ret (de_abs rfl Tx.b_abs (de_var 0)))))
/-! is_number -/
abbrev s_isnumber : Stmt := top 8
noncomputable def t_isnumber : CS := (dseq (dife (dor (dnot (dtv (disi "tuple" (dv 0)))) (dtv (d2 fNe (dbi fLen (dcons (dv 0) dnil)) (dk (.int 2))))) (dret (dk (.bool false))) dskip) (dseq (dasg (.tup [(.nm 1), (.nm 2)]) (dv 0)) (dseq (dife (dor (dnot (dtv (dcall m_iswhole (dcons (dv 1) dnil)))) (dnot (dtv (dcall m_iswhole (dcons (dv 2) dnil))))) (dret (dk (.bool false))) dskip) (dret (dandV (d2 fGt (dv 2) (dk (.int 0))) (d2 fEq (dcall m_divisor (dcons (dv 1) (dcons (dv 2) dnil))) (dk (.int 1))))))))
noncomputable def m_isnumber : List D → Option Rt := runD 3 t_isnumber
theorem sc_isnumber : FnScope ["thing", "top", "bottom"] ["thing"] (defScope s_isnumber) := ⟨rfl, rfl, rfl, by decide +kernel, rfl, by decide +kernel, by decide +kernel⟩
theorem ok_isnumber (Tx : Txt P w K mg base) (F : Fdef K mg "is_number" "is_number" s_isnumber ["thing"]) (D_iswhole : Dok P w K mg base (L2N.CX P w) 1 "is_whole" ["thing"] m_iswhole) (D_divisor : Dok P w K mg base (L2N.CX P w) 1 "divisor" ["one", "other"] m_divisor) : Dok P w K mg base (L2N.CX P w) 2 "is_number" ["thing"] m_isnumber :=
  dokN F sc_isnumber (by decide) fun f cdv A outer s H E F0 hr => (dss_cons (ds_if (dt_w (dw_or (dt_not (dt_val (de_isi kitT_tuple rfl rfl Tx.b_isinstance rfl Tx.b_tuple (de_var 0)))) (dw_or1 (dt_ne (huOf hr) (de_len rfl Tx.b_len (de_var 0)) de_int)))) (dss_one (ds_ret de_bl)) dss_nil) (dss_cons (ds_asg (de_var 0) (dg_tup rfl (dgs_cons (dg_name 1 sc_isnumber.nd rfl (by first | exact Or.inl rfl | exact Or.inr rfl)) (dgs_cons (dg_name 2 sc_isnumber.nd rfl (by first | exact Or.inl rfl | exact Or.inr rfl)) dgs_nil)))) (dss_cons (ds_if (dt_w (dw_or (dt_not (dt_val (de_def D_iswhole (hr.mono (by decide)) (fun σ => L2N.passAt (L2N.takes_of rfl rfl rfl rfl) σ) rfl (da_cons (de_var 1) da_nil) (.cons .nil)))) (dw_or1 (dt_not (dt_val (de_def D_iswhole (hr.mono (by decide)) (fun σ => L2N.passAt (L2N.takes_of rfl rfl rfl rfl) σ) rfl (da_cons (de_var 2) da_nil) (.cons .nil))))))) (dss_one (ds_ret de_bl)) dss_nil) (dss_one (ds_ret (de_and (de_gt (de_var 2) de_int) (de_one (de_eq (huOf hr) (de_def D_divisor (hr.mono (by decide)) (fun σ => L2N.passAt (L2N.takes_of rfl rfl rfl rfl) σ) rfl (da_cons (de_var 1) (da_cons (de_var 2) da_nil)) (.cons (.cons .nil))) de_int))))))))
/-! show_number -/
abbrev s_shownumber : Stmt := top 12
noncomputable def t_shownumber : CS := (dseq (dife (dtv (d2 fEq (d2 fIx (dv 0) (dk (.int 1))) (dk (.int 1)))) (dret (dbi fStr (dcons (d2 fIx (dv 0) (dk (.int 0))) dnil))) dskip) (dret (d2 fAdd (d2 fAdd (dbi fStr (dcons (d2 fIx (dv 0) (dk (.int 0))) dnil)) (dk (.str "/"))) (dbi fStr (dcons (d2 fIx (dv 0) (dk (.int 1))) dnil)))))
noncomputable def m_shownumber : List D → Option Rt := runD 1 t_shownumber
theorem sc_shownumber : FnScope ["one"] ["one"] (defScope s_shownumber) := ⟨rfl, rfl, rfl, by decide +kernel, rfl, by decide +kernel, by decide +kernel⟩
theorem ok_shownumber (Tx : Txt P w K mg base) (F : Fdef K mg "show_number" "show_number" s_shownumber ["one"])  : Dok P w K mg base (L2N.CX P w) 1 "show_number" ["one"] m_shownumber :=
  dokN F sc_shownumber (by decide) fun f cdv A outer s H E F0 hr => (dss_cons (ds_if (dt_eq (huOf hr) (de_ix (de_var 0) de_int) de_int) (dss_one (ds_ret (de_strT rfl Tx.b_str (de_ix (de_var 0) de_int)))) dss_nil) (dss_one (ds_ret (de_add (de_add (de_strT rfl Tx.b_str (de_ix (de_var 0) de_int)) de_str) (de_strT rfl Tx.b_str (de_ix (de_var 0) de_int))))))
/-! count_of -/
abbrev s_countof : Stmt := top 13
noncomputable def t_countof : CS := (dseq (dife (dor (dtv (d2 fEq (dv 0) (dk (.str "")))) (dtv (d2 fGt (dbi fLen (dcons (dv 0) dnil)) (dk (.int 60))))) (dthrow "NoNumber") dskip) (dseq (dfor (dit (dv 0)) (.nm 1) (dife (dtv (d2 fNotIn (dv 1) (dk (.str "0123456789")))) (dthrow "NoNumber") dskip)) (dseq (dife (dand (dtv (d2 fEq (d2 fIx (dv 0) (dk (.int 0))) (dk (.str "0")))) (dtv (d2 fNe (dv 0) (dk (.str "0"))))) (dthrow "NoNumber") dskip) (dret (dbi fInt (dcons (dv 0) dnil))))))
noncomputable def m_countof : List D → Option Rt := runD 2 t_countof
theorem sc_countof : FnScope ["text", "sign"] ["text"] (defScope s_countof) := ⟨rfl, rfl, rfl, by decide +kernel, rfl, by decide +kernel, by decide +kernel⟩
theorem ok_countof (Tx : Txt P w K mg base) (F : Fdef K mg "count_of" "count_of" s_countof ["text"])  : Dok P w K mg base (L2N.CX P w) 1 "count_of" ["text"] m_countof :=
  dokN F sc_countof (by decide) fun f cdv A outer s H E F0 hr => (dss_cons (ds_if (dt_w (dw_or (dt_eq (huOf hr) (de_var 0) de_str) (dw_or1 (dt_gt (de_len rfl Tx.b_len (de_var 0)) (de_globI Tx.g_MOST rfl))))) (dss_one (ds_thrN Tx.T_NoNumber rfl (L2N.takes_of rfl rfl rfl rfl) rfl)) dss_nil) (dss_cons (ds_for (L2.passes_of rfl) rfl (di_any (de_var 0)) (dg_name 1 sc_countof.nd rfl (by first | exact Or.inl rfl | exact Or.inr rfl)) (dss_one (ds_if (dt_notin (huOf' hr) (de_var 1) (de_globS Tx.g_FIGURES_figures rfl)) (dss_one (ds_thrN Tx.T_NoNumber rfl (L2N.takes_of rfl rfl rfl rfl) rfl)) dss_nil))) (dss_cons (ds_if (dt_w (dw_and (dt_eq (huOf hr) (de_ix (de_var 0) de_int) de_str) (dw_and1 (dt_ne (huOf hr) (de_var 0) de_str)))) (dss_one (ds_thrN Tx.T_NoNumber rfl (L2N.takes_of rfl rfl rfl rfl) rfl)) dss_nil) (dss_one (ds_ret (de_intT rfl Tx.b_int (de_var 0)))))))
/-! top_of -/
abbrev s_topof : Stmt := top 14
noncomputable def t_topof : CS := (dseq (dife (dtv (d2 fNe (dsl (dv 0) none (some (dk (.int 1)))) (dk (.str "-")))) (dret (dcall m_countof (dcons (dv 0) dnil))) dskip) (dseq (dset 1 (dcall m_countof (dcons (dsl (dv 0) (some (dk (.int 1))) none) dnil))) (dseq (dife (dtv (d2 fEq (dv 1) (dk (.int 0)))) (dthrow "NoNumber") dskip) (dret (d2 fSub (dk (.int 0)) (dv 1))))))
noncomputable def m_topof : List D → Option Rt := runD 2 t_topof
theorem sc_topof : FnScope ["text", "size"] ["text"] (defScope s_topof) := ⟨rfl, rfl, rfl, by decide +kernel, rfl, by decide +kernel, by decide +kernel⟩
theorem ok_topof (Tx : Txt P w K mg base) (F : Fdef K mg "top_of" "top_of" s_topof ["text"]) (D_countof : Dok P w K mg base (L2N.CX P w) 1 "count_of" ["text"] m_countof) : Dok P w K mg base (L2N.CX P w) 2 "top_of" ["text"] m_topof :=
  dokN F sc_topof (by decide) fun f cdv A outer s H E F0 hr => (dss_cons (ds_if (dt_ne (huOf hr) (de_sl (de_var 0) do_none (do_some de_int)) de_str) (dss_one (ds_ret (de_def D_countof (hr.mono (by decide)) (fun σ => L2N.passAt (L2N.takes_of rfl rfl rfl rfl) σ) rfl (da_cons (de_var 0) da_nil) (.cons .nil)))) dss_nil) (dss_cons (ds_set (i := 1) sc_topof.nd rfl (by first | exact Or.inl rfl | exact Or.inr rfl) (de_def D_countof (hr.mono (by decide)) (fun σ => L2N.passAt (L2N.takes_of rfl rfl rfl rfl) σ) rfl (da_cons (de_sl (de_var 0) (do_some de_int) do_none) da_nil) (.cons .nil))) (dss_cons (ds_if (dt_eq (huOf hr) (de_var 1) de_int) (dss_one (ds_thrN Tx.T_NoNumber rfl (L2N.takes_of rfl rfl rfl rfl) rfl)) dss_nil) (dss_one (ds_ret (de_sub de_int (de_var 1)))))))
/-! read_number -/
abbrev s_readnumber : Stmt := top 15
noncomputable def t_readnumber : CS := (dseq (dife (dnot (dtv (disi "str" (dv 0)))) (dthrow "NoNumber") dskip) (dseq (dasg (.tup [(.nm 3), (.nm 4), (.nm 5)]) (dm1 fPart (dv 0) (dk (.str "/")))) (dseq (dset 1 (dcall m_topof (dcons (dv 3) dnil))) (dseq (dife (dtv (d2 fEq (dv 4) (dk (.str "")))) (dret (dtup (dcons (dv 1) (dcons (dk (.int 1)) dnil)))) dskip) (dseq (dset 2 (dcall m_countof (dcons (dv 5) dnil))) (dseq (dife (dor (dtv (d2 fLt (dv 2) (dk (.int 2)))) (dtv (d2 fNe (dcall m_divisor (dcons (dv 1) (dcons (dv 2) dnil))) (dk (.int 1))))) (dthrow "NoNumber") dskip) (dret (dtup (dcons (dv 1) (dcons (dv 2) dnil))))))))))
noncomputable def m_readnumber : List D → Option Rt := runD 6 t_readnumber
theorem sc_readnumber : FnScope ["text", "top", "bottom", "above", "stroke", "below"] ["text"] (defScope s_readnumber) := ⟨rfl, rfl, rfl, by decide +kernel, rfl, by decide +kernel, by decide +kernel⟩
theorem ok_readnumber (Tx : Txt P w K mg base) (F : Fdef K mg "read_number" "read_number" s_readnumber ["text"]) (D_topof : Dok P w K mg base (L2N.CX P w) 2 "top_of" ["text"] m_topof) (D_countof : Dok P w K mg base (L2N.CX P w) 1 "count_of" ["text"] m_countof) (D_divisor : Dok P w K mg base (L2N.CX P w) 1 "divisor" ["one", "other"] m_divisor) : Dok P w K mg base (L2N.CX P w) 3 "read_number" ["text"] m_readnumber :=
  dokN F sc_readnumber (by decide) fun f cdv A outer s H E F0 hr => (dss_cons (ds_if (dt_not (dt_val (de_isi kitT_str rfl rfl Tx.b_isinstance rfl Tx.b_str (de_var 0)))) (dss_one (ds_thrN Tx.T_NoNumber rfl (L2N.takes_of rfl rfl rfl rfl) rfl)) dss_nil) (dss_cons (ds_asg (de_part (de_var 0) (by exact de_str)) (dg_tup rfl (dgs_cons (dg_name 3 sc_readnumber.nd rfl (by first | exact Or.inl rfl | exact Or.inr rfl)) (dgs_cons (dg_name 4 sc_readnumber.nd rfl (by first | exact Or.inl rfl | exact Or.inr rfl)) (dgs_cons (dg_name 5 sc_readnumber.nd rfl (by first | exact Or.inl rfl | exact Or.inr rfl)) dgs_nil))))) (dss_cons (ds_set (i := 1) sc_readnumber.nd rfl (by first | exact Or.inl rfl | exact Or.inr rfl) (de_def D_topof (hr.mono (by decide)) (fun σ => L2N.passAt (L2N.takes_of rfl rfl rfl rfl) σ) rfl (da_cons (de_var 3) da_nil) (.cons .nil))) (dss_cons (ds_if (dt_eq (huOf hr) (de_var 4) de_str) (dss_one (ds_ret (de_tup (da_cons (de_var 1) (da_cons de_int da_nil))))) dss_nil) (dss_cons (ds_set (i := 2) sc_readnumber.nd rfl (by first | exact Or.inl rfl | exact Or.inr rfl) (de_def D_countof (hr.mono (by decide)) (fun σ => L2N.passAt (L2N.takes_of rfl rfl rfl rfl) σ) rfl (da_cons (de_var 5) da_nil) (.cons .nil))) (dss_cons (ds_if (dt_w (dw_or (dt_lt (de_var 2) de_int) (dw_or1 (dt_ne (huOf hr) (de_def D_divisor (hr.mono (by decide)) (fun σ => L2N.passAt (L2N.takes_of rfl rfl rfl rfl) σ) rfl (da_cons (de_var 1) (da_cons (de_var 2) da_nil)) (.cons (.cons .nil))) de_int)))) (dss_one (ds_thrN Tx.T_NoNumber rfl (L2N.takes_of rfl rfl rfl rfl) rfl)) dss_nil) (dss_one (ds_ret (de_tup (da_cons (de_var 1) (da_cons (de_var 2) da_nil)))))))))))
/-! is_told -/
abbrev s_istold : Stmt := top 16
noncomputable def t_istold : CS := (dret (dandV (dcall m_isnumber (dcons (dv 0) dnil)) (dandV (d2 fLt (dbi fAbs (dcons (d2 fIx (dv 0) (dk (.int 0))) dnil)) (d2 fPow (dk (.int 10)) (dk (.int 18)))) (d2 fLe (d2 fIx (dv 0) (dk (.int 1))) (dk (.int 60))))))
noncomputable def m_istold : List D → Option Rt := runD 1 t_istold
theorem sc_istold : FnScope ["thing"] ["thing"] (defScope s_istold) := ⟨rfl, rfl, rfl, by decide +kernel, rfl, by decide +kernel, by decide +kernel⟩
theorem ok_istold (Tx : Txt P w K mg base) (F : Fdef K mg "is_told" "is_told" s_istold ["thing"]) (D_isnumber : Dok P w K mg base (L2N.CX P w) 2 "is_number" ["thing"] m_isnumber) : Dok P w K mg base (L2N.CX P w) 3 "is_told" ["thing"] m_istold :=
  dokN F sc_istold (by decide) fun f cdv A outer s H E F0 hr => (dss_one (ds_ret (de_and (de_def D_isnumber (hr.mono (by decide)) (fun σ => L2N.passAt (L2N.takes_of rfl rfl rfl rfl) σ) rfl (da_cons (de_var 0) da_nil) (.cons .nil)) (de_and (de_lt (de_abs rfl Tx.b_abs (de_ix (de_var 0) de_int)) (de_pow de_int de_int)) (de_one (de_le (de_ix (de_var 0) de_int) de_int))))))
/-! is_leap -/
abbrev s_isleap : Stmt := top 20
noncomputable def t_isleap : CS := (dseq (dife (dtv (d2 fEq (d2 fMod (dv 0) (dk (.int 400))) (dk (.int 0)))) (dret (dk (.bool true))) dskip) (dret (dandV (d2 fEq (d2 fMod (dv 0) (dk (.int 4))) (dk (.int 0))) (d2 fNe (d2 fMod (dv 0) (dk (.int 100))) (dk (.int 0))))))
noncomputable def m_isleap : List D → Option Rt := runD 1 t_isleap
theorem sc_isleap : FnScope ["year"] ["year"] (defScope s_isleap) := ⟨rfl, rfl, rfl, by decide +kernel, rfl, by decide +kernel, by decide +kernel⟩
theorem ok_isleap (Tx : Txt P w K mg base) (F : Fdef K mg "is_leap" "is_leap" s_isleap ["year"])  : Dok P w K mg base (L2N.CX P w) 1 "is_leap" ["year"] m_isleap :=
  dokN F sc_isleap (by decide) fun f cdv A outer s H E F0 hr => (dss_cons (ds_if (dt_eq (huOf hr) (de_mod (de_var 0) de_int) de_int) (dss_one (ds_ret de_bl)) dss_nil) (dss_one (ds_ret (de_and (de_eq (huOf hr) (de_mod (de_var 0) de_int) de_int) (de_one (de_ne (huOf hr) (de_mod (de_var 0) de_int) de_int))))))
/-! length_of -/
abbrev s_lengthof : Stmt := top 21
noncomputable def t_lengthof : CS := (dseq (dife (dtv (d2 fEq (dv 1) (dk (.int 2)))) (dret (d2 fAdd (dk (.int 28)) (dbi fInt (dcons (dcall m_isleap (dcons (dv 0) dnil)) dnil)))) dskip) (dseq (dife (dor (dtv (d2 fEq (dv 1) (dk (.int 4)))) (dor (dtv (d2 fEq (dv 1) (dk (.int 6)))) (dor (dtv (d2 fEq (dv 1) (dk (.int 9)))) (dtv (d2 fEq (dv 1) (dk (.int 11))))))) (dret (dk (.int 30))) dskip) (dret (dk (.int 31)))))
noncomputable def m_lengthof : List D → Option Rt := runD 2 t_lengthof
theorem sc_lengthof : FnScope ["year", "month"] ["year", "month"] (defScope s_lengthof) := ⟨rfl, rfl, rfl, by decide +kernel, rfl, by decide +kernel, by decide +kernel⟩
theorem ok_lengthof (Tx : Txt P w K mg base) (F : Fdef K mg "length_of" "length_of" s_lengthof ["year", "month"]) (D_isleap : Dok P w K mg base (L2N.CX P w) 1 "is_leap" ["year"] m_isleap) : Dok P w K mg base (L2N.CX P w) 2 "length_of" ["year", "month"] m_lengthof :=
  dokN F sc_lengthof (by decide) fun f cdv A outer s H E F0 hr => (dss_cons (ds_if (dt_eq (huOf hr) (de_var 1) de_int) (dss_one (ds_ret (de_add de_int (de_intT rfl Tx.b_int (de_def D_isleap (hr.mono (by decide)) (fun σ => L2N.passAt (L2N.takes_of rfl rfl rfl rfl) σ) rfl (da_cons (de_var 0) da_nil) (.cons .nil)))))) dss_nil) (dss_cons (ds_if (dt_w (dw_or (dt_eq (huOf hr) (de_var 1) de_int) (dw_or (dt_eq (huOf hr) (de_var 1) de_int) (dw_or (dt_eq (huOf hr) (de_var 1) de_int) (dw_or1 (dt_eq (huOf hr) (de_var 1) de_int)))))) (dss_one (ds_ret de_int)) dss_nil) (dss_one (ds_ret de_int))))
/-! ahead_of -/
abbrev s_aheadof : Stmt := top 22
noncomputable def t_aheadof : CS := (dseq (dset 1 (d2 fSub (dv 0) (dk (.int 1)))) (dret (d2 fAdd (d2 fSub (d2 fAdd (d2 fMul (dk (.int 365)) (dv 1)) (d2 fDiv (dv 1) (dk (.int 4)))) (d2 fDiv (dv 1) (dk (.int 100)))) (d2 fDiv (dv 1) (dk (.int 400))))))
noncomputable def m_aheadof : List D → Option Rt := runD 2 t_aheadof
theorem sc_aheadof : FnScope ["year", "gone"] ["year"] (defScope s_aheadof) := ⟨rfl, rfl, rfl, by decide +kernel, rfl, by decide +kernel, by decide +kernel⟩
theorem ok_aheadof (Tx : Txt P w K mg base) (F : Fdef K mg "ahead_of" "ahead_of" s_aheadof ["year"])  : Dok P w K mg base (L2N.CX P w) 1 "ahead_of" ["year"] m_aheadof :=
  dokN F sc_aheadof (by decide) fun f cdv A outer s H E F0 hr => (dss_cons (ds_set (i := 1) sc_aheadof.nd rfl (by first | exact Or.inl rfl | exact Or.inr rfl) (de_sub (de_var 0) de_int)) (dss_one (ds_ret (de_add (de_sub (de_add (de_mul de_int (de_var 1)) (de_fdiv (de_var 1) de_int)) (de_fdiv (de_var 1) de_int)) (de_fdiv (de_var 1) de_int)))))
/-! is_day -/
abbrev s_isday : Stmt := top 23
noncomputable def t_isday : CS := (dret (dandV (dcall m_iswhole (dcons (dv 0) dnil)) (dandV (d2 fLe (dk (.int 0)) (dv 0)) (d2 fLe (dv 0) (dk (.int 3652058))))))
noncomputable def m_isday : List D → Option Rt := runD 1 t_isday
theorem sc_isday : FnScope ["thing"] ["thing"] (defScope s_isday) := ⟨rfl, rfl, rfl, by decide +kernel, rfl, by decide +kernel, by decide +kernel⟩
theorem ok_isday (Tx : Txt P w K mg base) (F : Fdef K mg "is_day" "is_day" s_isday ["thing"]) (D_iswhole : Dok P w K mg base (L2N.CX P w) 1 "is_whole" ["thing"] m_iswhole) : Dok P w K mg base (L2N.CX P w) 2 "is_day" ["thing"] m_isday :=
  dokN F sc_isday (by decide) fun f cdv A outer s H E F0 hr => (dss_one (ds_ret (de_and (de_def D_iswhole (hr.mono (by decide)) (fun σ => L2N.passAt (L2N.takes_of rfl rfl rfl rfl) σ) rfl (da_cons (de_var 0) da_nil) (.cons .nil)) (de_and (de_le de_int (de_var 0)) (de_one (de_le (de_var 0) (de_globI Tx.g_LAST rfl)))))))
/-! is_told_day -/
abbrev s_istoldday : Stmt := top 24
noncomputable def t_istoldday : CS := (dret (dandV (dcall m_isday (dcons (dv 0) dnil)) (dandV (d2 fLe (dcall m_aheadof (dcons (dk (.int 1000)) dnil)) (dv 0)) (d2 fLt (dv 0) (dcall m_aheadof (dcons (dk (.int 9000)) dnil))))))
noncomputable def m_istoldday : List D → Option Rt := runD 1 t_istoldday
theorem sc_istoldday : FnScope ["thing"] ["thing"] (defScope s_istoldday) := ⟨rfl, rfl, rfl, by decide +kernel, rfl, by decide +kernel, by decide +kernel⟩
theorem ok_istoldday (Tx : Txt P w K mg base) (F : Fdef K mg "is_told_day" "is_told_day" s_istoldday ["thing"]) (D_isday : Dok P w K mg base (L2N.CX P w) 2 "is_day" ["thing"] m_isday) (D_aheadof : Dok P w K mg base (L2N.CX P w) 1 "ahead_of" ["year"] m_aheadof) : Dok P w K mg base (L2N.CX P w) 3 "is_told_day" ["thing"] m_istoldday :=
  dokN F sc_istoldday (by decide) fun f cdv A outer s H E F0 hr => (dss_one (ds_ret (de_and (de_def D_isday (hr.mono (by decide)) (fun σ => L2N.passAt (L2N.takes_of rfl rfl rfl rfl) σ) rfl (da_cons (de_var 0) da_nil) (.cons .nil)) (de_and (de_le (de_def D_aheadof (hr.mono (by decide)) (fun σ => L2N.passAt (L2N.takes_of rfl rfl rfl rfl) σ) rfl (da_cons de_int da_nil) (.cons .nil)) (de_var 0)) (de_one (de_lt (de_var 0) (de_def D_aheadof (hr.mono (by decide)) (fun σ => L2N.passAt (L2N.takes_of rfl rfl rfl rfl) σ) rfl (da_cons de_int da_nil) (.cons .nil))))))))
/-! day_of -/
abbrev s_dayof : Stmt := top 25
noncomputable def t_dayof : CS := (dseq (dife (dor (dnot (dtv (dcall m_iswhole (dcons (dv 0) dnil)))) (dor (dnot (dtv (dcall m_iswhole (dcons (dv 1) dnil)))) (dnot (dtv (dcall m_iswhole (dcons (dv 2) dnil)))))) (dthrow "NoDay") dskip) (dseq (dife (dor (dtv (d2 fLt (dv 0) (dk (.int 1)))) (dor (dtv (d2 fGt (dv 0) (dk (.int 9999)))) (dor (dtv (d2 fLt (dv 1) (dk (.int 1)))) (dtv (d2 fGt (dv 1) (dk (.int 12))))))) (dthrow "NoDay") dskip) (dseq (dife (dor (dtv (d2 fLt (dv 2) (dk (.int 1)))) (dtv (d2 fGt (dv 2) (dcall m_lengthof (dcons (dv 0) (dcons (dv 1) dnil)))))) (dthrow "NoDay") dskip) (dseq (dset 3 (d2 fSub (d2 fAdd (dcall m_aheadof (dcons (dv 0) dnil)) (dv 2)) (dk (.int 1)))) (dseq (dfor (dsrc rg2 (dcons (dk (.int 1)) (dcons (dv 1) dnil))) (.nm 4) (dset 3 (d2 fAdd (dv 3) (dcall m_lengthof (dcons (dv 0) (dcons (dv 4) dnil)))))) (dret (dv 3)))))))
noncomputable def m_dayof : List D → Option Rt := runD 5 t_dayof
theorem sc_dayof : FnScope ["year", "month", "day", "found", "k"] ["year", "month", "day"] (defScope s_dayof) := ⟨rfl, rfl, rfl, by decide +kernel, rfl, by decide +kernel, by decide +kernel⟩
theorem ok_dayof (Tx : Txt P w K mg base) (F : Fdef K mg "day_of" "day_of" s_dayof ["year", "month", "day"]) (D_iswhole : Dok P w K mg base (L2N.CX P w) 1 "is_whole" ["thing"] m_iswhole) (D_lengthof : Dok P w K mg base (L2N.CX P w) 2 "length_of" ["year", "month"] m_lengthof) (D_aheadof : Dok P w K mg base (L2N.CX P w) 1 "ahead_of" ["year"] m_aheadof) : Dok P w K mg base (L2N.CX P w) 3 "day_of" ["year", "month", "day"] m_dayof :=
  dokN F sc_dayof (by decide) fun f cdv A outer s H E F0 hr => (dss_cons (ds_if (dt_w (dw_or (dt_not (dt_val (de_def D_iswhole (hr.mono (by decide)) (fun σ => L2N.passAt (L2N.takes_of rfl rfl rfl rfl) σ) rfl (da_cons (de_var 0) da_nil) (.cons .nil)))) (dw_or (dt_not (dt_val (de_def D_iswhole (hr.mono (by decide)) (fun σ => L2N.passAt (L2N.takes_of rfl rfl rfl rfl) σ) rfl (da_cons (de_var 1) da_nil) (.cons .nil)))) (dw_or1 (dt_not (dt_val (de_def D_iswhole (hr.mono (by decide)) (fun σ => L2N.passAt (L2N.takes_of rfl rfl rfl rfl) σ) rfl (da_cons (de_var 2) da_nil) (.cons .nil)))))))) (dss_one (ds_thrN Tx.T_NoDay rfl (L2N.takes_of rfl rfl rfl rfl) rfl)) dss_nil) (dss_cons (ds_if (dt_w (dw_or (dt_lt (de_var 0) de_int) (dw_or (dt_gt (de_var 0) de_int) (dw_or (dt_lt (de_var 1) de_int) (dw_or1 (dt_gt (de_var 1) de_int)))))) (dss_one (ds_thrN Tx.T_NoDay rfl (L2N.takes_of rfl rfl rfl rfl) rfl)) dss_nil) (dss_cons (ds_if (dt_w (dw_or (dt_lt (de_var 2) de_int) (dw_or1 (dt_gt (de_var 2) (de_def D_lengthof (hr.mono (by decide)) (fun σ => L2N.passAt (L2N.takes_of rfl rfl rfl rfl) σ) rfl (da_cons (de_var 0) (da_cons (de_var 1) da_nil)) (.cons (.cons .nil))))))) (dss_one (ds_thrN Tx.T_NoDay rfl (L2N.takes_of rfl rfl rfl rfl) rfl)) dss_nil) (dss_cons (ds_set (i := 3) sc_dayof.nd rfl (by first | exact Or.inl rfl | exact Or.inr rfl) (de_sub (de_add (de_def D_aheadof (hr.mono (by decide)) (fun σ => L2N.passAt (L2N.takes_of rfl rfl rfl rfl) σ) rfl (da_cons (de_var 0) da_nil) (.cons .nil)) (de_var 2)) de_int)) (dss_cons (ds_for (L2.passes_of rfl) rfl (di_rg2 rfl Tx.b_range (da_cons de_int (da_cons (de_var 1) da_nil))) (dg_name 4 sc_dayof.nd rfl (by first | exact Or.inl rfl | exact Or.inr rfl)) (dss_one (ds_set (i := 3) sc_dayof.nd rfl (by first | exact Or.inl rfl | exact Or.inr rfl) (de_add (de_var 3) (de_def D_lengthof (hr.mono (by decide)) (fun σ => L2N.passAt (L2N.takes_of rfl rfl rfl rfl) σ) rfl (da_cons (de_var 0) (da_cons (de_var 4) da_nil)) (.cons (.cons .nil))))))) (dss_one (ds_ret (de_var 3))))))))
/-! parts_of -/
abbrev s_partsof : Stmt := top 26
noncomputable def t_partsof : CS := (dseq (dset 1 (d2 fAdd (d2 fDiv (dv 0) (dk (.int 366))) (dk (.int 1)))) (dseq (dwhile (dtv (d2 fLe (dcall m_aheadof (dcons (d2 fAdd (dv 1) (dk (.int 1))) dnil)) (dv 0))) (dset 1 (d2 fAdd (dv 1) (dk (.int 1))))) (dseq (dset 2 (d2 fSub (dv 0) (dcall m_aheadof (dcons (dv 1) dnil)))) (dseq (dset 3 (dk (.int 1))) (dseq (dwhile (dtv (d2 fGe (dv 2) (dcall m_lengthof (dcons (dv 1) (dcons (dv 3) dnil))))) (dseq (dset 2 (d2 fSub (dv 2) (dcall m_lengthof (dcons (dv 1) (dcons (dv 3) dnil))))) (dset 3 (d2 fAdd (dv 3) (dk (.int 1)))))) (dret (dtup (dcons (dv 1) (dcons (dv 3) (dcons (d2 fAdd (dv 2) (dk (.int 1))) dnil))))))))))
noncomputable def m_partsof : List D → Option Rt := runD 4 t_partsof
theorem sc_partsof : FnScope ["day", "year", "left", "month"] ["day"] (defScope s_partsof) := ⟨rfl, rfl, rfl, by decide +kernel, rfl, by decide +kernel, by decide +kernel⟩
theorem ok_partsof (Tx : Txt P w K mg base) (F : Fdef K mg "parts_of" "parts_of" s_partsof ["day"]) (D_aheadof : Dok P w K mg base (L2N.CX P w) 1 "ahead_of" ["year"] m_aheadof) (D_lengthof : Dok P w K mg base (L2N.CX P w) 2 "length_of" ["year", "month"] m_lengthof) : Dok P w K mg base (L2N.CX P w) 3 "parts_of" ["day"] m_partsof :=
  dokN F sc_partsof (by decide) fun f cdv A outer s H E F0 hr => (dss_cons (ds_set (i := 1) sc_partsof.nd rfl (by first | exact Or.inl rfl | exact Or.inr rfl) (de_add (de_fdiv (de_var 0) de_int) de_int)) (dss_cons (ds_while (L2.passes_of rfl) (dt_le (de_def D_aheadof (hr.mono (by decide)) (fun σ => L2N.passAt (L2N.takes_of rfl rfl rfl rfl) σ) rfl (da_cons (de_add (de_var 1) de_int) da_nil) (.cons .nil)) (de_var 0)) (dss_one (ds_set (i := 1) sc_partsof.nd rfl (by first | exact Or.inl rfl | exact Or.inr rfl) (de_add (de_var 1) de_int)))) (dss_cons (ds_set (i := 2) sc_partsof.nd rfl (by first | exact Or.inl rfl | exact Or.inr rfl) (de_sub (de_var 0) (de_def D_aheadof (hr.mono (by decide)) (fun σ => L2N.passAt (L2N.takes_of rfl rfl rfl rfl) σ) rfl (da_cons (de_var 1) da_nil) (.cons .nil)))) (dss_cons (ds_set (i := 3) sc_partsof.nd rfl (by first | exact Or.inl rfl | exact Or.inr rfl) de_int) (dss_cons (ds_while (L2.passes_of rfl) (dt_ge (de_var 2) (de_def D_lengthof (hr.mono (by decide)) (fun σ => L2N.passAt (L2N.takes_of rfl rfl rfl rfl) σ) rfl (da_cons (de_var 1) (da_cons (de_var 3) da_nil)) (.cons (.cons .nil)))) (dss_cons (ds_set (i := 2) sc_partsof.nd rfl (by first | exact Or.inl rfl | exact Or.inr rfl) (de_sub (de_var 2) (de_def D_lengthof (hr.mono (by decide)) (fun σ => L2N.passAt (L2N.takes_of rfl rfl rfl rfl) σ) rfl (da_cons (de_var 1) (da_cons (de_var 3) da_nil)) (.cons (.cons .nil))))) (dss_one (ds_set (i := 3) sc_partsof.nd rfl (by first | exact Or.inl rfl | exact Or.inr rfl) (de_add (de_var 3) de_int))))) (dss_one (ds_ret (de_tup (da_cons (de_var 1) (da_cons (de_var 3) (da_cons (de_add (de_var 2) de_int) da_nil)))))))))))
/-! show_day -/
abbrev s_showday : Stmt := top 27
noncomputable def t_showday : CS := (dseq (dasg (.tup [(.nm 1), (.nm 2), (.nm 3)]) (dcall m_partsof (dcons (dv 0) dnil))) (dret (d2 fAdd (d2 fAdd (d2 fAdd (d2 fAdd (dm1 fZfill (dbi fStr (dcons (dv 1) dnil)) (dk (.int 4))) (dk (.str "-"))) (dm1 fZfill (dbi fStr (dcons (dv 2) dnil)) (dk (.int 2)))) (dk (.str "-"))) (dm1 fZfill (dbi fStr (dcons (dv 3) dnil)) (dk (.int 2))))))
noncomputable def m_showday : List D → Option Rt := runD 4 t_showday
theorem sc_showday : FnScope ["day", "year", "month", "left"] ["day"] (defScope s_showday) := ⟨rfl, rfl, rfl, by decide +kernel, rfl, by decide +kernel, by decide +kernel⟩
theorem ok_showday (Tx : Txt P w K mg base) (F : Fdef K mg "show_day" "show_day" s_showday ["day"]) (D_partsof : Dok P w K mg base (L2N.CX P w) 3 "parts_of" ["day"] m_partsof) : Dok P w K mg base (L2N.CX P w) 4 "show_day" ["day"] m_showday :=
  dokN F sc_showday (by decide) fun f cdv A outer s H E F0 hr => (dss_cons (ds_asg (de_def D_partsof (hr.mono (by decide)) (fun σ => L2N.passAt (L2N.takes_of rfl rfl rfl rfl) σ) rfl (da_cons (de_var 0) da_nil) (.cons .nil)) (dg_tup rfl (dgs_cons (dg_name 1 sc_showday.nd rfl (by first | exact Or.inl rfl | exact Or.inr rfl)) (dgs_cons (dg_name 2 sc_showday.nd rfl (by first | exact Or.inl rfl | exact Or.inr rfl)) (dgs_cons (dg_name 3 sc_showday.nd rfl (by first | exact Or.inl rfl | exact Or.inr rfl)) dgs_nil))))) (dss_one (ds_ret (de_add (de_add (de_add (de_add (de_zfill (de_strT rfl Tx.b_str (de_var 1)) (by exact de_int)) de_str) (de_zfill (de_strT rfl Tx.b_str (de_var 2)) (by exact de_int))) de_str) (de_zfill (de_strT rfl Tx.b_str (de_var 3)) (by exact de_int))))))
/-! read_day -/
abbrev s_readday : Stmt := top 28
noncomputable def t_readday : CS := (dseq (dife (dor (dnot (dtv (disi "str" (dv 0)))) (dor (dtv (d2 fNe (dbi fLen (dcons (dv 0) dnil)) (dk (.int 10)))) (dor (dtv (d2 fNe (d2 fIx (dv 0) (dk (.int 4))) (dk (.str "-")))) (dtv (d2 fNe (d2 fIx (dv 0) (dk (.int 7))) (dk (.str "-"))))))) (dthrow "NoDay") dskip) (dseq (dfor (dit (d2 fAdd (d2 fAdd (dsl (dv 0) none (some (dk (.int 4)))) (dsl (dv 0) (some (dk (.int 5))) (some (dk (.int 7))))) (dsl (dv 0) (some (dk (.int 8))) none))) (.nm 1) (dife (dtv (d2 fNotIn (dv 1) (dk (.str "0123456789")))) (dthrow "NoDay") dskip)) (dret (dcall m_dayof (dcons (dbi fInt (dcons (dsl (dv 0) none (some (dk (.int 4)))) dnil)) (dcons (dbi fInt (dcons (dsl (dv 0) (some (dk (.int 5))) (some (dk (.int 7)))) dnil)) (dcons (dbi fInt (dcons (dsl (dv 0) (some (dk (.int 8))) none) dnil)) dnil)))))))
noncomputable def m_readday : List D → Option Rt := runD 2 t_readday
theorem sc_readday : FnScope ["text", "sign"] ["text"] (defScope s_readday) := ⟨rfl, rfl, rfl, by decide +kernel, rfl, by decide +kernel, by decide +kernel⟩
theorem ok_readday (Tx : Txt P w K mg base) (F : Fdef K mg "read_day" "read_day" s_readday ["text"]) (D_dayof : Dok P w K mg base (L2N.CX P w) 3 "day_of" ["year", "month", "day"] m_dayof) : Dok P w K mg base (L2N.CX P w) 4 "read_day" ["text"] m_readday :=
  dokN F sc_readday (by decide) fun f cdv A outer s H E F0 hr => (dss_cons (ds_if (dt_w (dw_or (dt_not (dt_val (de_isi kitT_str rfl rfl Tx.b_isinstance rfl Tx.b_str (de_var 0)))) (dw_or (dt_ne (huOf hr) (de_len rfl Tx.b_len (de_var 0)) de_int) (dw_or (dt_ne (huOf hr) (de_ix (de_var 0) de_int) de_str) (dw_or1 (dt_ne (huOf hr) (de_ix (de_var 0) de_int) de_str)))))) (dss_one (ds_thrN Tx.T_NoDay rfl (L2N.takes_of rfl rfl rfl rfl) rfl)) dss_nil) (dss_cons (ds_for (L2.passes_of rfl) rfl (di_any (de_add (de_add (de_sl (de_var 0) do_none (do_some de_int)) (de_sl (de_var 0) (do_some de_int) (do_some de_int))) (de_sl (de_var 0) (do_some de_int) do_none))) (dg_name 1 sc_readday.nd rfl (by first | exact Or.inl rfl | exact Or.inr rfl)) (dss_one (ds_if (dt_notin (huOf' hr) (de_var 1) (de_globS Tx.g_FIGURES_days rfl)) (dss_one (ds_thrN Tx.T_NoDay rfl (L2N.takes_of rfl rfl rfl rfl) rfl)) dss_nil))) (dss_one (ds_ret (de_def D_dayof (hr.mono (by decide)) (fun σ => L2N.passAt (L2N.takes_of rfl rfl rfl rfl) σ) rfl (da_cons (de_intT rfl Tx.b_int (de_sl (de_var 0) do_none (do_some de_int))) (da_cons (de_intT rfl Tx.b_int (de_sl (de_var 0) (do_some de_int) (do_some de_int))) (da_cons (de_intT rfl Tx.b_int (de_sl (de_var 0) (do_some de_int) do_none)) da_nil))) (.cons (.cons (.cons .nil))))))))
/-! is_word -/
abbrev s_isword : Stmt := top 31
noncomputable def t_isword : CS := (dseq (dife (dor (dnot (dtv (disi "str" (dv 0)))) (dnot (dtv (dchain leB leB (dk (.int 1)) (dbi fLen (dcons (dv 0) dnil)) (dk (.int 8)))))) (dret (dk (.bool false))) dskip) (dret (dbi fAll (dcons (dlc (dit (dv 0)) (.nm 1) [1] (dyes true) (d2 fIn (dv 1) (dk (.str "abcdefghijklmnopqrstuvwxyz")))) dnil))))
noncomputable def m_isword : List D → Option Rt := runD 2 t_isword
theorem sc_isword : FnScope ["thing", "sign"] ["thing"] (defScope s_isword) := ⟨rfl, rfl, rfl, by decide +kernel, rfl, by decide +kernel, by decide +kernel⟩
theorem ok_isword (Tx : Txt P w K mg base) (F : Fdef K mg "is_word" "is_word" s_isword ["thing"])  : Dok P w K mg base (L2N.CX P w) 1 "is_word" ["thing"] m_isword :=
  dokN F sc_isword (by decide) fun f cdv A outer s H E F0 hr => (dss_cons (ds_if (dt_w (dw_or (dt_not (dt_val (de_isi kitT_str rfl rfl Tx.b_isinstance rfl Tx.b_str (de_var 0)))) (dw_or1 (dt_not (dt_lele de_int (de_len rfl Tx.b_len (de_var 0)) de_int))))) (dss_one (ds_ret de_bl)) dss_nil) (dss_one (ds_ret (de_all rfl rfl Tx.b_all (de_lc rfl sc_isword.nd (by exact (di_any (de_var 0))) (blkOk_by (own := [("sign", 1)]) rfl) (by decide) (fun _ _ _ _ _ _ _ => (dg_name 1 sc_isword.nd rfl (by first | exact Or.inl rfl | exact Or.inr rfl))) (fun _ _ _ _ _ => dts_nil) (fun _ _ _ _ _ _ _ => (de_in (huOf' hr) (de_var 1) (de_globS Tx.g_LETTERS rfl))))))))
/-! is_cell -/
abbrev s_iscell : Stmt := top 32
noncomputable def t_iscell : CS := (dseq (dife (dtv (d2 fIs (dv 1) (dk .none))) (dret (dk (.bool true))) dskip) (dseq (dife (dtv (d2 fEq (dv 0) (dk (.str "number")))) (dret (dcall m_istold (dcons (dv 1) dnil))) dskip) (dseq (dife (dtv (d2 fEq (dv 0) (dk (.str "word")))) (dret (dcall m_isword (dcons (dv 1) dnil))) dskip) (dret (dcall m_istoldday (dcons (dv 1) dnil))))))
noncomputable def m_iscell : List D → Option Rt := runD 2 t_iscell
theorem sc_iscell : FnScope ["kind", "thing"] ["kind", "thing"] (defScope s_iscell) := ⟨rfl, rfl, rfl, by decide +kernel, rfl, by decide +kernel, by decide +kernel⟩
theorem ok_iscell (Tx : Txt P w K mg base) (F : Fdef K mg "is_cell" "is_cell" s_iscell ["kind", "thing"]) (D_istold : Dok P w K mg base (L2N.CX P w) 3 "is_told" ["thing"] m_istold) (D_isword : Dok P w K mg base (L2N.CX P w) 1 "is_word" ["thing"] m_isword) (D_istoldday : Dok P w K mg base (L2N.CX P w) 3 "is_told_day" ["thing"] m_istoldday) : Dok P w K mg base (L2N.CX P w) 4 "is_cell" ["kind", "thing"] m_iscell :=
  dokN F sc_iscell (by decide) fun f cdv A outer s H E F0 hr => (dss_cons (ds_if (dt_is (de_var 1) de_non) (dss_one (ds_ret de_bl)) dss_nil) (dss_cons (ds_if (dt_eq (huOf hr) (de_var 0) de_str) (dss_one (ds_ret (de_def D_istold (hr.mono (by decide)) (fun σ => L2N.passAt (L2N.takes_of rfl rfl rfl rfl) σ) rfl (da_cons (de_var 1) da_nil) (.cons .nil)))) dss_nil) (dss_cons (ds_if (dt_eq (huOf hr) (de_var 0) de_str) (dss_one (ds_ret (de_def D_isword (hr.mono (by decide)) (fun σ => L2N.passAt (L2N.takes_of rfl rfl rfl rfl) σ) rfl (da_cons (de_var 1) da_nil) (.cons .nil)))) dss_nil) (dss_one (ds_ret (de_def D_istoldday (hr.mono (by decide)) (fun σ => L2N.passAt (L2N.takes_of rfl rfl rfl rfl) σ) rfl (da_cons (de_var 1) da_nil) (.cons .nil)))))))
/-! show_cell -/
abbrev s_showcell : Stmt := top 34
noncomputable def t_showcell : CS := (dseq (dife (dtv (d2 fIs (dv 1) (dk .none))) (dret (dk (.str "-"))) dskip) (dseq (dife (dtv (d2 fEq (dv 0) (dk (.str "number")))) (dret (dcall m_shownumber (dcons (dv 1) dnil))) dskip) (dseq (dife (dtv (d2 fEq (dv 0) (dk (.str "day")))) (dret (dcall m_showday (dcons (dv 1) dnil))) dskip) (dret (dv 1)))))
noncomputable def m_showcell : List D → Option Rt := runD 2 t_showcell
theorem sc_showcell : FnScope ["kind", "cell"] ["kind", "cell"] (defScope s_showcell) := ⟨rfl, rfl, rfl, by decide +kernel, rfl, by decide +kernel, by decide +kernel⟩
theorem ok_showcell (Tx : Txt P w K mg base) (F : Fdef K mg "show_cell" "show_cell" s_showcell ["kind", "cell"]) (D_shownumber : Dok P w K mg base (L2N.CX P w) 1 "show_number" ["one"] m_shownumber) (D_showday : Dok P w K mg base (L2N.CX P w) 4 "show_day" ["day"] m_showday) : Dok P w K mg base (L2N.CX P w) 5 "show_cell" ["kind", "cell"] m_showcell :=
  dokN F sc_showcell (by decide) fun f cdv A outer s H E F0 hr => (dss_cons (ds_if (dt_is (de_var 1) de_non) (dss_one (ds_ret de_str)) dss_nil) (dss_cons (ds_if (dt_eq (huOf hr) (de_var 0) de_str) (dss_one (ds_ret (de_def D_shownumber (hr.mono (by decide)) (fun σ => L2N.passAt (L2N.takes_of rfl rfl rfl rfl) σ) rfl (da_cons (de_var 1) da_nil) (.cons .nil)))) dss_nil) (dss_cons (ds_if (dt_eq (huOf hr) (de_var 0) de_str) (dss_one (ds_ret (de_def D_showday (hr.mono (by decide)) (fun σ => L2N.passAt (L2N.takes_of rfl rfl rfl rfl) σ) rfl (da_cons (de_var 1) da_nil) (.cons .nil)))) dss_nil) (dss_one (ds_ret (de_var 1))))))
/-! cell_by -/
abbrev s_cellby : Stmt := top 35
noncomputable def t_cellby : CS := (dseq (dife (dtv (d2 fEq (dv 0) (dk (.str "number")))) (dret (dcall m_readnumber (dcons (dv 1) dnil))) dskip) (dseq (dife (dtv (d2 fEq (dv 0) (dk (.str "day")))) (dret (dcall m_readday (dcons (dv 1) dnil))) dskip) (dret (dv 1))))
noncomputable def m_cellby : List D → Option Rt := runD 2 t_cellby
theorem sc_cellby : FnScope ["kind", "text"] ["kind", "text"] (defScope s_cellby) := ⟨rfl, rfl, rfl, by decide +kernel, rfl, by decide +kernel, by decide +kernel⟩
theorem ok_cellby (Tx : Txt P w K mg base) (F : Fdef K mg "cell_by" "cell_by" s_cellby ["kind", "text"]) (D_readnumber : Dok P w K mg base (L2N.CX P w) 3 "read_number" ["text"] m_readnumber) (D_readday : Dok P w K mg base (L2N.CX P w) 4 "read_day" ["text"] m_readday) : Dok P w K mg base (L2N.CX P w) 5 "cell_by" ["kind", "text"] m_cellby :=
  dokN F sc_cellby (by decide) fun f cdv A outer s H E F0 hr => (dss_cons (ds_if (dt_eq (huOf hr) (de_var 0) de_str) (dss_one (ds_ret (de_def D_readnumber (hr.mono (by decide)) (fun σ => L2N.passAt (L2N.takes_of rfl rfl rfl rfl) σ) rfl (da_cons (de_var 1) da_nil) (.cons .nil)))) dss_nil) (dss_cons (ds_if (dt_eq (huOf hr) (de_var 0) de_str) (dss_one (ds_ret (de_def D_readday (hr.mono (by decide)) (fun σ => L2N.passAt (L2N.takes_of rfl rfl rfl rfl) σ) rfl (da_cons (de_var 1) da_nil) (.cons .nil)))) dss_nil) (dss_one (ds_ret (de_var 1)))))
/-! read_cell -/
abbrev s_readcell : Stmt := top 36
noncomputable def t_readcell : CS := (dseq (dife (dnot (dtv (disi "str" (dv 1)))) (dthrowF "NoTable" "row" (dk .none)) dskip) (dseq (dife (dtv (d2 fEq (dv 1) (dk (.str "-")))) (dret (dk .none)) dskip) (dseq (dtry (dset 2 (dcall m_cellby (dcons (dv 0) (dcons (dv 1) dnil)))) isA_NoNumber_NoDay (dthrowF "NoTable" "row" (dk .none))) (dseq (dife (dnot (dtv (dcall m_iscell (dcons (dv 0) (dcons (dv 2) dnil))))) (dthrowF "NoTable" "row" (dk .none)) dskip) (dret (dv 2))))))
noncomputable def m_readcell : List D → Option Rt := runD 3 t_readcell
theorem sc_readcell : FnScope ["kind", "text", "cell"] ["kind", "text"] (defScope s_readcell) := ⟨rfl, rfl, rfl, by decide +kernel, rfl, by decide +kernel, by decide +kernel⟩
theorem ok_readcell (Tx : Txt P w K mg base) (F : Fdef K mg "read_cell" "read_cell" s_readcell ["kind", "text"]) (D_cellby : Dok P w K mg base (L2N.CX P w) 5 "cell_by" ["kind", "text"] m_cellby) (D_iscell : Dok P w K mg base (L2N.CX P w) 4 "is_cell" ["kind", "thing"] m_iscell) : Dok P w K mg base (L2.CX P w) 6 "read_cell" ["kind", "text"] m_readcell :=
  dokD F sc_readcell (by decide) fun f cdv A outer s H E F0 hr => (dss_cons (ds_if (dt_not (dt_val (de_isi kitT_str rfl rfl Tx.b_isinstance rfl Tx.b_str (de_var 1)))) (dss_one (ds_thrF Tx.X_NoTable rfl (L2.takes_of rfl rfl rfl rfl) (hr.mono (by decide)) rfl de_non)) dss_nil) (dss_cons (ds_if (dt_eq (huOf hr) (de_var 1) de_str) (dss_one (ds_ret de_non)) dss_nil) (dss_cons (Tx.A_NoNumber_NoDay fun _ _ g1 g2 hA => (by exact ds_tryR rfl rfl (tst_two ⟨rfl, by decide, Or.inl g1⟩ ⟨rfl, by decide, Or.inl g2⟩) hA (L2H.passesAt_of rfl) (L2.takes_of rfl rfl rfl rfl) (fun W pn xe tk0 po0 => (dss_one (ds_set (i := 2) sc_readcell.nd rfl (by first | exact Or.inl rfl | exact Or.inr rfl) (de_def D_cellby (hr.mono (by decide)) (fun σ => L2N.passAt tk0 σ) rfl (da_cons (de_var 0) (da_cons (de_var 1) da_nil)) (.cons (.cons .nil)))))) (fun a oe cls d pn tk1 hot => (dss_one (ds_thrFH Tx.X_NoTable hot tk1 ((L2H.roomH_mark hr _).mono (by decide)) rfl de_non))))) (dss_cons (ds_if (dt_not (dt_val (de_def D_iscell (hr.mono (by decide)) (fun σ => L2N.passAt (takesN_of (L2.takes_of rfl rfl rfl rfl)) σ) rfl (da_cons (de_var 0) (da_cons (de_var 2) da_nil)) (.cons (.cons .nil))))) (dss_one (ds_thrF Tx.X_NoTable rfl (L2.takes_of rfl rfl rfl rfl) (hr.mono (by decide)) rfl de_non)) dss_nil) (dss_one (ds_ret (de_var 2)))))))
/-! _law_draws -/
abbrev s_Ldraws : Stmt := top 38
noncomputable def t_Ldraws : CS := (dseq (dset 2 (dlst dnil)) (dseq (dset 3 (dbi fAbs (dcons (dv 0) dnil))) (dseq (dset 4 (d2 fMod (d2 fMul (dv 0) (dk (.int 48271))) (dk (.int 2147483647)))) (dseq (dfor (drg1 (dbi fLen (dcons (dv 1) dnil))) (.nm 5) (dife (dtv (d2 fGe (dbi fAbs (dcons (dv 0) dnil)) (d2 fPow (dk (.int 10)) (dk (.int 18))))) (dseq (dapp 2 (d2 fMod (dv 3) (d2 fIx (dv 1) (dv 5)))) (dset 3 (d2 fDiv (dv 3) (d2 fIx (dv 1) (dv 5))))) (dseq (dset 4 (d2 fMod (d2 fAdd (d2 fAdd (d2 fAdd (d2 fMul (dv 4) (dv 4)) (d2 fMul (dk (.int 69621)) (dv 4))) (d2 fMul (dk (.int 7919)) (dv 5))) (dk (.int 11))) (dk (.int 2147483647)))) (dapp 2 (d2 fMod (d2 fMod (d2 fMul (dv 4) (dk (.int 16807))) (dk (.int 2147483629))) (d2 fIx (dv 1) (dv 5))))))) (dret (dv 2))))))
noncomputable def m_Ldraws : List D → Option Rt := runD 6 t_Ldraws
theorem sc_Ldraws : FnScope ["_law_cell", "_law_tops", "_law_found", "_law_left", "_law_mixed", "_law_k"] ["_law_cell", "_law_tops"] (defScope s_Ldraws) := ⟨rfl, rfl, rfl, by decide +kernel, rfl, by decide +kernel, by decide +kernel⟩
theorem ok_Ldraws (Tx : Txt P w K mg base) (F : Fdef K mg "_law_draws" "_law_draws" s_Ldraws ["_law_cell", "_law_tops"])  : Dok P w K mg base (L2N.CX P w) 1 "_law_draws" ["_law_cell", "_law_tops"] m_Ldraws :=
  dokN F sc_Ldraws (by decide) fun f cdv A outer s H E F0 hr => (dss_cons (ds_set (i := 2) sc_Ldraws.nd rfl (by first | exact Or.inl rfl | exact Or.inr rfl) (de_lst da_nil)) (dss_cons (ds_set (i := 3) sc_Ldraws.nd rfl (by first | exact Or.inl rfl | exact Or.inr rfl) (de_abs rfl Tx.b_abs (de_var 0))) (dss_cons (ds_set (i := 4) sc_Ldraws.nd rfl (by first | exact Or.inl rfl | exact Or.inr rfl) (de_mod (de_mul (de_var 0) de_int) de_int)) (dss_cons (ds_for (L2.passes_of rfl) rfl (di_rg1 rfl Tx.b_range (de_len rfl Tx.b_len (de_var 1))) (dg_name 5 sc_Ldraws.nd rfl (by first | exact Or.inl rfl | exact Or.inr rfl)) (dss_one (ds_if (dt_ge (de_abs rfl Tx.b_abs (de_var 0)) (de_pow de_int de_int)) (dss_cons (ds_append (i := 2) rfl (de_mod (de_var 3) (de_ix (de_var 1) (de_var 5)))) (dss_one (ds_set (i := 3) sc_Ldraws.nd rfl (by first | exact Or.inl rfl | exact Or.inr rfl) (de_fdiv (de_var 3) (de_ix (de_var 1) (de_var 5)))))) (dss_cons (ds_set (i := 4) sc_Ldraws.nd rfl (by first | exact Or.inl rfl | exact Or.inr rfl) (de_mod (de_add (de_add (de_add (de_mul (de_var 4) (de_var 4)) (de_mul de_int (de_var 4))) (de_mul de_int (de_var 5))) de_int) de_int)) (dss_one (ds_append (i := 2) rfl (de_mod (de_mod (de_mul (de_var 4) de_int) de_int) (de_ix (de_var 1) (de_var 5))))))))) (dss_one (ds_ret (de_var 2)))))))
/-! _law_whole -/
abbrev s_Lwhole : Stmt := top 39
noncomputable def t_Lwhole : CS := (dret (dandV (disi "int" (dv 0)) (dnotV (disi "bool" (dv 0)))))
noncomputable def m_Lwhole : List D → Option Rt := runD 1 t_Lwhole
theorem sc_Lwhole : FnScope ["_law_found"] ["_law_found"] (defScope s_Lwhole) := ⟨rfl, rfl, rfl, by decide +kernel, rfl, by decide +kernel, by decide +kernel⟩
theorem ok_Lwhole (Tx : Txt P w K mg base) (F : Fdef K mg "_law_whole" "_law_whole" s_Lwhole ["_law_found"])  : Dok P w K mg base (L2N.CX P w) 1 "_law_whole" ["_law_found"] m_Lwhole :=
  dokN F sc_Lwhole (by decide) fun f cdv A outer s H E F0 hr => (dss_one (ds_ret (de_and (de_isi kitT_int rfl rfl Tx.b_isinstance rfl Tx.b_int (de_var 0)) (de_one (de_not (de_isi kitT_bool rfl rfl Tx.b_isinstance rfl Tx.b_bool (de_var 0)))))))
/-! _law_divisor -/
abbrev s_Ldivisor : Stmt := top 40
noncomputable def t_Ldivisor : CS := (dseq (dwhile (dtv (d2 fNe (dv 1) (dk (.int 0)))) (dpar 0 1 (dcons (dv 1) (dcons (d2 fMod (dv 0) (dv 1)) dnil)))) (dret (dbi fAbs (dcons (dv 0) dnil))))
noncomputable def m_Ldivisor : List D → Option Rt := runD 2 t_Ldivisor
theorem sc_Ldivisor : FnScope ["_law_one", "_law_other"] ["_law_one", "_law_other"] (defScope s_Ldivisor) := ⟨rfl, rfl, rfl, by decide +kernel, rfl, by decide +kernel, by decide +kernel⟩
theorem ok_Ldivisor (Tx : Txt P w K mg base) (F : Fdef K mg "_law_divisor" "_law_divisor" s_Ldivisor ["_law_one", "_law_other"])  : Dok P w K mg base (L2N.CX P w) 1 "_law_divisor" ["_law_one", "_law_other"] m_Ldivisor :=
  dokN F sc_Ldivisor (by decide) fun f cdv A outer s H E F0 hr => (dss_cons (ds_while (L2.passes_of rfl) (dt_ne (huOf hr) (de_var 1) de_int) (dss_one (ds_par (i := 0) (j := 1) rfl sc_Ldivisor.nd rfl rfl (by decide) rfl rfl (da_cons (de_var 1) (da_cons (de_mod (de_var 0) (de_var 1)) da_nil)) rfl))) (dss_one (ds_ret (de_abs rfl Tx.b_abs (de_var 0)))))
/-! _law_lengths -/
abbrev s_Llengths : Stmt := top 41
noncomputable def t_Llengths : CS := (dseq (dset 1 (dandV (d2 fEq (d2 fMod (dv 0) (dk (.int 4))) (dk (.int 0))) (dorV (d2 fNe (d2 fMod (dv 0) (dk (.int 100))) (dk (.int 0))) (d2 fEq (d2 fMod (dv 0) (dk (.int 400))) (dk (.int 0)))))) (dret (dlst (dcons (dk (.int 31)) (dcons (d2 fAdd (dk (.int 28)) (dbi fInt (dcons (dv 1) dnil))) (dcons (dk (.int 31)) (dcons (dk (.int 30)) (dcons (dk (.int 31)) (dcons (dk (.int 30)) (dcons (dk (.int 31)) (dcons (dk (.int 31)) (dcons (dk (.int 30)) (dcons (dk (.int 31)) (dcons (dk (.int 30)) (dcons (dk (.int 31)) dnil)))))))))))))))
noncomputable def m_Llengths : List D → Option Rt := runD 2 t_Llengths
theorem sc_Llengths : FnScope ["_law_year", "_law_leap"] ["_law_year"] (defScope s_Llengths) := ⟨rfl, rfl, rfl, by decide +kernel, rfl, by decide +kernel, by decide +kernel⟩
theorem ok_Llengths (Tx : Txt P w K mg base) (F : Fdef K mg "_law_lengths" "_law_lengths" s_Llengths ["_law_year"])  : Dok P w K mg base (L2N.CX P w) 1 "_law_lengths" ["_law_year"] m_Llengths :=
  dokN F sc_Llengths (by decide) fun f cdv A outer s H E F0 hr => (dss_cons (ds_set (i := 1) sc_Llengths.nd rfl (by first | exact Or.inl rfl | exact Or.inr rfl) (de_and (de_eq (huOf hr) (de_mod (de_var 0) de_int) de_int) (de_one (de_or (de_ne (huOf hr) (de_mod (de_var 0) de_int) de_int) (de_one (de_eq (huOf hr) (de_mod (de_var 0) de_int) de_int)))))) (dss_one (ds_ret (de_lst (da_cons de_int (da_cons (de_add de_int (de_intT rfl Tx.b_int (de_var 1))) (da_cons de_int (da_cons de_int (da_cons de_int (da_cons de_int (da_cons de_int (da_cons de_int (da_cons de_int (da_cons de_int (da_cons de_int (da_cons de_int da_nil))))))))))))))))
/-! _law_number -/
abbrev s_Lnumber : Stmt := top 42
noncomputable def t_Lnumber : CS := (dseq (dset 1 (d2 fIx (dlst (dcons (d2 fMod (d2 fIx (dv 0) (dk (.int 2))) (dk (.int 10))) (dcons (d2 fMod (d2 fIx (dv 0) (dk (.int 2))) (dk (.int 1000))) (dcons (d2 fIx (dv 0) (dk (.int 2))) (dcons (d2 fAdd (d2 fMul (d2 fIx (dv 0) (dk (.int 2))) (d2 fPow (dk (.int 10)) (dk (.int 9)))) (d2 fIx (dv 0) (dk (.int 3)))) dnil))))) (d2 fIx (dv 0) (dk (.int 1))))) (dseq (dset 2 (d2 fIx (dlst (dcons (d2 fAdd (d2 fIx (dv 0) (dk (.int 4))) (dk (.int 1))) (dcons (dk (.int 1)) dnil))) (dbi fInt (dcons (d2 fGe (d2 fIx (dv 0) (dk (.int 4))) (dk (.int 60))) dnil)))) (dseq (dset 3 (dcall m_Ldivisor (dcons (dv 1) (dcons (dv 2) dnil)))) (dret (dtup (dcons (d2 fDiv (d2 fMul (d2 fSub (dk (.int 1)) (d2 fMul (dk (.int 2)) (d2 fIx (dv 0) (dk (.int 0))))) (dv 1)) (dv 3)) (dcons (d2 fDiv (dv 2) (dv 3)) dnil)))))))
noncomputable def m_Lnumber : List D → Option Rt := runD 4 t_Lnumber
theorem sc_Lnumber : FnScope ["_law_d", "_law_top", "_law_bottom", "_law_share"] ["_law_d"] (defScope s_Lnumber) := ⟨rfl, rfl, rfl, by decide +kernel, rfl, by decide +kernel, by decide +kernel⟩
theorem ok_Lnumber (Tx : Txt P w K mg base) (F : Fdef K mg "_law_number" "_law_number" s_Lnumber ["_law_d"]) (D_Ldivisor : Dok P w K mg base (L2N.CX P w) 1 "_law_divisor" ["_law_one", "_law_other"] m_Ldivisor) : Dok P w K mg base (L2N.CX P w) 2 "_law_number" ["_law_d"] m_Lnumber :=
  dokN F sc_Lnumber (by decide) fun f cdv A outer s H E F0 hr => (dss_cons (ds_set (i := 1) sc_Lnumber.nd rfl (by first | exact Or.inl rfl | exact Or.inr rfl) (de_ix (de_lst (da_cons (de_mod (de_ix (de_var 0) de_int) de_int) (da_cons (de_mod (de_ix (de_var 0) de_int) de_int) (da_cons (de_ix (de_var 0) de_int) (da_cons (de_add (de_mul (de_ix (de_var 0) de_int) (de_pow de_int de_int)) (de_ix (de_var 0) de_int)) da_nil))))) (de_ix (de_var 0) de_int))) (dss_cons (ds_set (i := 2) sc_Lnumber.nd rfl (by first | exact Or.inl rfl | exact Or.inr rfl) (de_ix (de_lst (da_cons (de_add (de_ix (de_var 0) de_int) de_int) (da_cons de_int da_nil))) (de_intT rfl Tx.b_int (de_ge (de_ix (de_var 0) de_int) de_int)))) (dss_cons (ds_set (i := 3) sc_Lnumber.nd rfl (by first | exact Or.inl rfl | exact Or.inr rfl) (de_def D_Ldivisor (hr.mono (by decide)) (fun σ => L2N.passAt (L2N.takes_of rfl rfl rfl rfl) σ) rfl (da_cons (de_var 1) (da_cons (de_var 2) da_nil)) (.cons (.cons .nil)))) (dss_one (ds_ret (de_tup (da_cons (de_fdiv (de_mul (de_sub de_int (de_mul de_int (de_ix (de_var 0) de_int))) (de_var 1)) (de_var 3)) (da_cons (de_fdiv (de_var 2) (de_var 3)) da_nil))))))))
/-! _law_word -/
abbrev s_Lword : Stmt := top 43
noncomputable def t_Lword : CS := (dseq (dset 1 (dk (.str "abcdefghijklmnopqrstuvwxyz"))) (dret (dm1 fJoin (dk (.str "")) (dlc (drg1 (d2 fAdd (dk (.int 1)) (d2 fIx (dv 0) (dk (.int 0))))) (.nm 2) [2] (dyes true) (d2 fIx (dv 1) (d2 fMod (d2 fIx (dv 0) (d2 fAdd (dk (.int 2)) (dv 2))) (d2 fIx (dlst (dcons (dk (.int 26)) (dcons (dk (.int 2)) dnil))) (d2 fIx (dv 0) (dk (.int 1))))))))))
noncomputable def m_Lword : List D → Option Rt := runD 3 t_Lword
theorem sc_Lword : FnScope ["_law_d", "_law_some", "_law_k"] ["_law_d"] (defScope s_Lword) := ⟨rfl, rfl, rfl, by decide +kernel, rfl, by decide +kernel, by decide +kernel⟩
theorem ok_Lword (Tx : Txt P w K mg base) (F : Fdef K mg "_law_word" "_law_word" s_Lword ["_law_d"])  : Dok P w K mg base (L2N.CX P w) 1 "_law_word" ["_law_d"] m_Lword :=
  dokN F sc_Lword (by decide) fun f cdv A outer s H E F0 hr => (dss_cons (ds_set (i := 1) sc_Lword.nd rfl (by first | exact Or.inl rfl | exact Or.inr rfl) de_str) (dss_one (ds_ret (de_join de_str (by exact (de_lc rfl sc_Lword.nd (by exact (di_rg1 rfl Tx.b_range (de_add de_int (de_ix (de_var 0) de_int)))) (blkOk_by (own := [("_law_k", 2)]) rfl) (by decide) (fun _ _ _ _ _ _ _ => (dg_name 2 sc_Lword.nd rfl (by first | exact Or.inl rfl | exact Or.inr rfl))) (fun _ _ _ _ _ => dts_nil) (fun _ _ _ _ _ _ _ => (de_ix (de_var 1) (de_mod (de_ix (de_var 0) (de_add de_int (de_var 2))) (de_ix (de_lst (da_cons de_int (da_cons de_int da_nil))) (de_ix (de_var 0) de_int)))))))))))
/-! _law_day -/
abbrev s_Lday : Stmt := top 44
noncomputable def t_Lday : CS := (dseq (dset 1 (d2 fAdd (dk (.int 1000)) (d2 fIx (dv 0) (dk (.int 0))))) (dseq (dset 2 (dcall m_Llengths (dcons (dv 1) dnil))) (dseq (dset 3 (d2 fAdd (d2 fSub (d2 fAdd (d2 fMul (dk (.int 365)) (d2 fSub (dv 1) (dk (.int 1)))) (d2 fDiv (d2 fSub (dv 1) (dk (.int 1))) (dk (.int 4)))) (d2 fDiv (d2 fSub (dv 1) (dk (.int 1))) (dk (.int 100)))) (d2 fDiv (d2 fSub (dv 1) (dk (.int 1))) (dk (.int 400))))) (dseq (dset 4 (d2 fMod (d2 fIx (dv 0) (dk (.int 2))) (d2 fIx (dv 2) (d2 fIx (dv 0) (dk (.int 1)))))) (dseq (dset 5 (d2 fAdd (d2 fAdd (d2 fAdd (d2 fAdd (dbi fStr (dcons (dv 1) dnil)) (dk (.str "-"))) (dm1 fZfill (dbi fStr (dcons (d2 fAdd (d2 fIx (dv 0) (dk (.int 1))) (dk (.int 1))) dnil)) (dk (.int 2)))) (dk (.str "-"))) (dm1 fZfill (dbi fStr (dcons (d2 fAdd (dv 4) (dk (.int 1))) dnil)) (dk (.int 2))))) (dret (dtup (dcons (d2 fAdd (d2 fAdd (dv 3) (dbi fSum (dcons (dsl (dv 2) none (some (d2 fIx (dv 0) (dk (.int 1))))) dnil))) (dv 4)) (dcons (dv 5) dnil)))))))))
noncomputable def m_Lday : List D → Option Rt := runD 6 t_Lday
theorem sc_Lday : FnScope ["_law_d", "_law_year", "_law_lengths_here", "_law_ahead", "_law_at", "_law_text"] ["_law_d"] (defScope s_Lday) := ⟨rfl, rfl, rfl, by decide +kernel, rfl, by decide +kernel, by decide +kernel⟩
theorem ok_Lday (Tx : Txt P w K mg base) (F : Fdef K mg "_law_day" "_law_day" s_Lday ["_law_d"]) (D_Llengths : Dok P w K mg base (L2N.CX P w) 1 "_law_lengths" ["_law_year"] m_Llengths) : Dok P w K mg base (L2N.CX P w) 2 "_law_day" ["_law_d"] m_Lday :=
  dokN F sc_Lday (by decide) fun f cdv A outer s H E F0 hr => (dss_cons (ds_set (i := 1) sc_Lday.nd rfl (by first | exact Or.inl rfl | exact Or.inr rfl) (de_add de_int (de_ix (de_var 0) de_int))) (dss_cons (ds_set (i := 2) sc_Lday.nd rfl (by first | exact Or.inl rfl | exact Or.inr rfl) (de_def D_Llengths (hr.mono (by decide)) (fun σ => L2N.passAt (L2N.takes_of rfl rfl rfl rfl) σ) rfl (da_cons (de_var 1) da_nil) (.cons .nil))) (dss_cons (ds_set (i := 3) sc_Lday.nd rfl (by first | exact Or.inl rfl | exact Or.inr rfl) (de_add (de_sub (de_add (de_mul de_int (de_sub (de_var 1) de_int)) (de_fdiv (de_sub (de_var 1) de_int) de_int)) (de_fdiv (de_sub (de_var 1) de_int) de_int)) (de_fdiv (de_sub (de_var 1) de_int) de_int))) (dss_cons (ds_set (i := 4) sc_Lday.nd rfl (by first | exact Or.inl rfl | exact Or.inr rfl) (de_mod (de_ix (de_var 0) de_int) (de_ix (de_var 2) (de_ix (de_var 0) de_int)))) (dss_cons (ds_set (i := 5) sc_Lday.nd rfl (by first | exact Or.inl rfl | exact Or.inr rfl) (de_add (de_add (de_add (de_add (de_strT rfl Tx.b_str (de_var 1)) de_str) (de_zfill (de_strT rfl Tx.b_str (de_add (de_ix (de_var 0) de_int) de_int)) (by exact de_int))) de_str) (de_zfill (de_strT rfl Tx.b_str (de_add (de_var 4) de_int)) (by exact de_int)))) (dss_one (ds_ret (de_tup (da_cons (de_add (de_add (de_var 3) (de_sum rfl rfl Tx.b_sum (de_sl (de_var 2) do_none (do_some (de_ix (de_var 0) de_int))))) (de_var 4)) (da_cons (de_var 5) da_nil))))))))))
/-! _law_good -/
abbrev s_Lgood : Stmt := top 45
noncomputable def t_Lgood : CS := (dseq (dife (dtv (d2 fEq (d2 fIx (dv 0) (dk (.int 1))) (dk (.int 0)))) (dret (dtup (dcons (dk .none) (dcons (dk (.str "-")) dnil)))) dskip) (dseq (dife (dtv (d2 fEq (d2 fIx (dv 0) (dk (.int 0))) (dk (.int 0)))) (dseq (dasg (.tup [(.nm 1), (.nm 2)]) (dcall m_Lnumber (dcons (dsl (dv 0) (some (dk (.int 15))) (some (dk (.int 20)))) dnil))) (dret (dtup (dcons (dtup (dcons (dv 1) (dcons (dv 2) dnil))) (dcons (d2 fAdd (dbi fStr (dcons (dv 1) dnil)) (d2 fIx (dlst (dcons (dk (.str "")) (dcons (d2 fAdd (dk (.str "/")) (dbi fStr (dcons (dv 2) dnil))) dnil))) (dbi fInt (dcons (d2 fGt (dv 2) (dk (.int 1))) dnil)))) dnil))))) dskip) (dseq (dife (dtv (d2 fEq (d2 fIx (dv 0) (dk (.int 0))) (dk (.int 1)))) (dret (dtup (dcons (dcall m_Lword (dcons (dsl (dv 0) (some (dk (.int 5))) (some (dk (.int 15)))) dnil)) (dcons (dcall m_Lword (dcons (dsl (dv 0) (some (dk (.int 5))) (some (dk (.int 15)))) dnil)) dnil)))) dskip) (dret (dcall m_Lday (dcons (dsl (dv 0) (some (dk (.int 20))) (some (dk (.int 23)))) dnil))))))
noncomputable def m_Lgood : List D → Option Rt := runD 3 t_Lgood
theorem sc_Lgood : FnScope ["_law_d", "_law_top", "_law_bottom"] ["_law_d"] (defScope s_Lgood) := ⟨rfl, rfl, rfl, by decide +kernel, rfl, by decide +kernel, by decide +kernel⟩
theorem ok_Lgood (Tx : Txt P w K mg base) (F : Fdef K mg "_law_good" "_law_good" s_Lgood ["_law_d"]) (D_Lnumber : Dok P w K mg base (L2N.CX P w) 2 "_law_number" ["_law_d"] m_Lnumber) (D_Lword : Dok P w K mg base (L2N.CX P w) 1 "_law_word" ["_law_d"] m_Lword) (D_Lday : Dok P w K mg base (L2N.CX P w) 2 "_law_day" ["_law_d"] m_Lday) : Dok P w K mg base (L2N.CX P w) 3 "_law_good" ["_law_d"] m_Lgood :=
  dokN F sc_Lgood (by decide) fun f cdv A outer s H E F0 hr => (dss_cons (ds_if (dt_eq (huOf hr) (de_ix (de_var 0) de_int) de_int) (dss_one (ds_ret (de_tup (da_cons de_non (da_cons de_str da_nil))))) dss_nil) (dss_cons (ds_if (dt_eq (huOf hr) (de_ix (de_var 0) de_int) de_int) (dss_cons (ds_asg (de_def D_Lnumber (hr.mono (by decide)) (fun σ => L2N.passAt (L2N.takes_of rfl rfl rfl rfl) σ) rfl (da_cons (de_sl (de_var 0) (do_some de_int) (do_some de_int)) da_nil) (.cons .nil)) (dg_tup rfl (dgs_cons (dg_name 1 sc_Lgood.nd rfl (by first | exact Or.inl rfl | exact Or.inr rfl)) (dgs_cons (dg_name 2 sc_Lgood.nd rfl (by first | exact Or.inl rfl | exact Or.inr rfl)) dgs_nil)))) (dss_one (ds_ret (de_tup (da_cons (de_tup (da_cons (de_var 1) (da_cons (de_var 2) da_nil))) (da_cons (de_add (de_strT rfl Tx.b_str (de_var 1)) (de_ix (de_lst (da_cons de_str (da_cons (de_add de_str (de_strT rfl Tx.b_str (de_var 2))) da_nil))) (de_intT rfl Tx.b_int (de_gt (de_var 2) de_int)))) da_nil)))))) dss_nil) (dss_cons (ds_if (dt_eq (huOf hr) (de_ix (de_var 0) de_int) de_int) (dss_one (ds_ret (de_tup (da_cons (de_def D_Lword (hr.mono (by decide)) (fun σ => L2N.passAt (L2N.takes_of rfl rfl rfl rfl) σ) rfl (da_cons (de_sl (de_var 0) (do_some de_int) (do_some de_int)) da_nil) (.cons .nil)) (da_cons (de_def D_Lword (hr.mono (by decide)) (fun σ => L2N.passAt (L2N.takes_of rfl rfl rfl rfl) σ) rfl (da_cons (de_sl (de_var 0) (do_some de_int) (do_some de_int)) da_nil) (.cons .nil)) da_nil))))) dss_nil) (dss_one (ds_ret (de_def D_Lday (hr.mono (by decide)) (fun σ => L2N.passAt (L2N.takes_of rfl rfl rfl rfl) σ) rfl (da_cons (de_sl (de_var 0) (do_some de_int) (do_some de_int)) da_nil) (.cons .nil)))))))
/-! _law_figures -/
abbrev s_Lfigures : Stmt := top 46
noncomputable def t_Lfigures : CS := (dseq (dife (dor (dtv (d2 fEq (dv 0) (dk (.str "")))) (dor (dtv (d2 fGt (dbi fLen (dcons (dv 0) dnil)) (dk (.int 60)))) (dand (dtv (d2 fGt (dbi fLen (dcons (dv 0) dnil)) (dk (.int 1)))) (dtv (d2 fEq (d2 fIx (dv 0) (dk (.int 0))) (dk (.str "0"))))))) (dret (d1 fNeg (dk (.int 1)))) dskip) (dseq (dfor (dit (dv 0)) (.nm 1) (dife (dtv (d2 fNotIn (dv 1) (dk (.str "0123456789")))) (dret (d1 fNeg (dk (.int 1)))) dskip)) (dret (dbi fInt (dcons (dv 0) dnil)))))
noncomputable def m_Lfigures : List D → Option Rt := runD 2 t_Lfigures
theorem sc_Lfigures : FnScope ["_law_text", "_law_sign"] ["_law_text"] (defScope s_Lfigures) := ⟨rfl, rfl, rfl, by decide +kernel, rfl, by decide +kernel, by decide +kernel⟩
theorem ok_Lfigures (Tx : Txt P w K mg base) (F : Fdef K mg "_law_figures" "_law_figures" s_Lfigures ["_law_text"])  : Dok P w K mg base (L2N.CX P w) 1 "_law_figures" ["_law_text"] m_Lfigures :=
  dokN F sc_Lfigures (by decide) fun f cdv A outer s H E F0 hr => (dss_cons (ds_if (dt_w (dw_or (dt_eq (huOf hr) (de_var 0) de_str) (dw_or (dt_gt (de_len rfl Tx.b_len (de_var 0)) de_int) (dw_or1 (dt_w (dw_and (dt_gt (de_len rfl Tx.b_len (de_var 0)) de_int) (dw_and1 (dt_eq (huOf hr) (de_ix (de_var 0) de_int) de_str)))))))) (dss_one (ds_ret (de_neg de_int))) dss_nil) (dss_cons (ds_for (L2.passes_of rfl) rfl (di_any (de_var 0)) (dg_name 1 sc_Lfigures.nd rfl (by first | exact Or.inl rfl | exact Or.inr rfl)) (dss_one (ds_if (dt_notin (huOf' hr) (de_var 1) de_str) (dss_one (ds_ret (de_neg de_int))) dss_nil))) (dss_one (ds_ret (de_intT rfl Tx.b_int (de_var 0))))))
/-! _law_number_by -/
abbrev s_Lnumberby : Stmt := top 47
noncomputable def t_Lnumberby : CS := (dseq (dasg (.tup [(.nm 4), (.nm 5), (.nm 6)]) (dm1 fPart (dv 0) (dk (.str "/")))) (dseq (dset 1 (d2 fEq (dsl (dv 4) none (some (dk (.int 1)))) (dk (.str "-")))) (dseq (dset 2 (dcall m_Lfigures (dcons (dsl (dv 4) (some (dbi fInt (dcons (dv 1) dnil))) none) dnil))) (dseq (dset 3 (dk (.int 1))) (dseq (dife (dtv (d2 fNe (dv 5) (dk (.str "")))) (dset 3 (dcall m_Lfigures (dcons (dv 6) dnil))) dskip) (dseq (dife (dor (dtv (d2 fLt (dv 2) (dk (.int 0)))) (dor (dand (dtv (dv 1)) (dtv (d2 fEq (dv 2) (dk (.int 0))))) (dor (dtv (d2 fLt (dv 3) (dk (.int 1)))) (dand (dtv (d2 fNe (dv 5) (dk (.str "")))) (dtv (d2 fLt (dv 3) (dk (.int 2)))))))) (dret (dk .none)) dskip) (dseq (dife (dor (dtv (d2 fGe (dv 2) (d2 fPow (dk (.int 10)) (dk (.int 18))))) (dor (dtv (d2 fGt (dv 3) (dk (.int 60)))) (dtv (d2 fNe (dcall m_Ldivisor (dcons (dv 2) (dcons (dv 3) dnil))) (dk (.int 1)))))) (dret (dk .none)) dskip) (dret (dtup (dcons (d2 fMul (d2 fSub (dk (.int 1)) (d2 fMul (dk (.int 2)) (dbi fInt (dcons (dv 1) dnil)))) (dv 2)) (dcons (dv 3) dnil)))))))))))
noncomputable def m_Lnumberby : List D → Option Rt := runD 7 t_Lnumberby
theorem sc_Lnumberby : FnScope ["_law_text", "_law_less", "_law_top", "_law_bottom", "_law_head", "_law_line", "_law_tail"] ["_law_text"] (defScope s_Lnumberby) := ⟨rfl, rfl, rfl, by decide +kernel, rfl, by decide +kernel, by decide +kernel⟩
theorem ok_Lnumberby (Tx : Txt P w K mg base) (F : Fdef K mg "_law_number_by" "_law_number_by" s_Lnumberby ["_law_text"]) (D_Lfigures : Dok P w K mg base (L2N.CX P w) 1 "_law_figures" ["_law_text"] m_Lfigures) (D_Ldivisor : Dok P w K mg base (L2N.CX P w) 1 "_law_divisor" ["_law_one", "_law_other"] m_Ldivisor) : Dok P w K mg base (L2N.CX P w) 2 "_law_number_by" ["_law_text"] m_Lnumberby :=
  dokN F sc_Lnumberby (by decide) fun f cdv A outer s H E F0 hr => (dss_cons (ds_asg (de_part (de_var 0) (by exact de_str)) (dg_tup rfl (dgs_cons (dg_name 4 sc_Lnumberby.nd rfl (by first | exact Or.inl rfl | exact Or.inr rfl)) (dgs_cons (dg_name 5 sc_Lnumberby.nd rfl (by first | exact Or.inl rfl | exact Or.inr rfl)) (dgs_cons (dg_name 6 sc_Lnumberby.nd rfl (by first | exact Or.inl rfl | exact Or.inr rfl)) dgs_nil))))) (dss_cons (ds_set (i := 1) sc_Lnumberby.nd rfl (by first | exact Or.inl rfl | exact Or.inr rfl) (de_eq (huOf hr) (de_sl (de_var 4) do_none (do_some de_int)) de_str)) (dss_cons (ds_set (i := 2) sc_Lnumberby.nd rfl (by first | exact Or.inl rfl | exact Or.inr rfl) (de_def D_Lfigures (hr.mono (by decide)) (fun σ => L2N.passAt (L2N.takes_of rfl rfl rfl rfl) σ) rfl (da_cons (de_sl (de_var 4) (do_some (de_intT rfl Tx.b_int (de_var 1))) do_none) da_nil) (.cons .nil))) (dss_cons (ds_set (i := 3) sc_Lnumberby.nd rfl (by first | exact Or.inl rfl | exact Or.inr rfl) de_int) (dss_cons (ds_if (dt_ne (huOf hr) (de_var 5) de_str) (dss_one (ds_set (i := 3) sc_Lnumberby.nd rfl (by first | exact Or.inl rfl | exact Or.inr rfl) (de_def D_Lfigures (hr.mono (by decide)) (fun σ => L2N.passAt (L2N.takes_of rfl rfl rfl rfl) σ) rfl (da_cons (de_var 6) da_nil) (.cons .nil)))) dss_nil) (dss_cons (ds_if (dt_w (dw_or (dt_lt (de_var 2) de_int) (dw_or (dt_w (dw_and (dt_val (de_var 1)) (dw_and1 (dt_eq (huOf hr) (de_var 2) de_int)))) (dw_or (dt_lt (de_var 3) de_int) (dw_or1 (dt_w (dw_and (dt_ne (huOf hr) (de_var 5) de_str) (dw_and1 (dt_lt (de_var 3) de_int))))))))) (dss_one (ds_ret de_non)) dss_nil) (dss_cons (ds_if (dt_w (dw_or (dt_ge (de_var 2) (de_pow de_int de_int)) (dw_or (dt_gt (de_var 3) de_int) (dw_or1 (dt_ne (huOf hr) (de_def D_Ldivisor (hr.mono (by decide)) (fun σ => L2N.passAt (L2N.takes_of rfl rfl rfl rfl) σ) rfl (da_cons (de_var 2) (da_cons (de_var 3) da_nil)) (.cons (.cons .nil))) de_int))))) (dss_one (ds_ret de_non)) dss_nil) (dss_one (ds_ret (de_tup (da_cons (de_mul (de_sub de_int (de_mul de_int (de_intT rfl Tx.b_int (de_var 1)))) (de_var 2)) (da_cons (de_var 3) da_nil))))))))))))
/-! _law_day_by -/
abbrev s_Ldayby : Stmt := top 48
noncomputable def t_Ldayby : CS := (dseq (dife (dor (dtv (d2 fNe (dbi fLen (dcons (dv 0) dnil)) (dk (.int 10)))) (dor (dtv (d2 fNe (d2 fIx (dv 0) (dk (.int 4))) (dk (.str "-")))) (dor (dtv (d2 fNe (d2 fIx (dv 0) (dk (.int 7))) (dk (.str "-")))) (dtv (d2 fNotIn (d2 fIx (dv 0) (dk (.int 0))) (dk (.str "12345678"))))))) (dret (dk .none)) dskip) (dseq (dset 1 (dcall m_Lfigures (dcons (dsl (dv 0) none (some (dk (.int 4)))) dnil))) (dseq (dset 2 (d2 fSub (dcall m_Lfigures (dcons (d2 fAdd (dk (.str "1")) (dsl (dv 0) (some (dk (.int 5))) (some (dk (.int 7))))) dnil)) (dk (.int 100)))) (dseq (dset 3 (d2 fSub (dcall m_Lfigures (dcons (d2 fAdd (dk (.str "1")) (dsl (dv 0) (some (dk (.int 8))) none)) dnil)) (dk (.int 100)))) (dseq (dife (dor (dtv (d2 fLt (dv 1) (dk (.int 1000)))) (dor (dtv (d2 fLt (dv 2) (dk (.int 1)))) (dor (dtv (d2 fGt (dv 2) (dk (.int 12)))) (dor (dtv (d2 fLt (dv 3) (dk (.int 1)))) (dtv (d2 fGt (dv 3) (d2 fIx (dcall m_Llengths (dcons (dv 1) dnil)) (d2 fSub (dv 2) (dk (.int 1)))))))))) (dret (dk .none)) dskip) (dret (d2 fIx (dcall m_Lday (dcons (dlst (dcons (d2 fSub (dv 1) (dk (.int 1000))) (dcons (d2 fSub (dv 2) (dk (.int 1))) (dcons (d2 fSub (dv 3) (dk (.int 1))) dnil)))) dnil)) (dk (.int 0)))))))))
noncomputable def m_Ldayby : List D → Option Rt := runD 4 t_Ldayby
theorem sc_Ldayby : FnScope ["_law_text", "_law_year", "_law_month", "_law_day_here"] ["_law_text"] (defScope s_Ldayby) := ⟨rfl, rfl, rfl, by decide +kernel, rfl, by decide +kernel, by decide +kernel⟩
theorem ok_Ldayby (Tx : Txt P w K mg base) (F : Fdef K mg "_law_day_by" "_law_day_by" s_Ldayby ["_law_text"]) (D_Lfigures : Dok P w K mg base (L2N.CX P w) 1 "_law_figures" ["_law_text"] m_Lfigures) (D_Llengths : Dok P w K mg base (L2N.CX P w) 1 "_law_lengths" ["_law_year"] m_Llengths) (D_Lday : Dok P w K mg base (L2N.CX P w) 2 "_law_day" ["_law_d"] m_Lday) : Dok P w K mg base (L2N.CX P w) 3 "_law_day_by" ["_law_text"] m_Ldayby :=
  dokN F sc_Ldayby (by decide) fun f cdv A outer s H E F0 hr => (dss_cons (ds_if (dt_w (dw_or (dt_ne (huOf hr) (de_len rfl Tx.b_len (de_var 0)) de_int) (dw_or (dt_ne (huOf hr) (de_ix (de_var 0) de_int) de_str) (dw_or (dt_ne (huOf hr) (de_ix (de_var 0) de_int) de_str) (dw_or1 (dt_notin (huOf' hr) (de_ix (de_var 0) de_int) de_str)))))) (dss_one (ds_ret de_non)) dss_nil) (dss_cons (ds_set (i := 1) sc_Ldayby.nd rfl (by first | exact Or.inl rfl | exact Or.inr rfl) (de_def D_Lfigures (hr.mono (by decide)) (fun σ => L2N.passAt (L2N.takes_of rfl rfl rfl rfl) σ) rfl (da_cons (de_sl (de_var 0) do_none (do_some de_int)) da_nil) (.cons .nil))) (dss_cons (ds_set (i := 2) sc_Ldayby.nd rfl (by first | exact Or.inl rfl | exact Or.inr rfl) (de_sub (de_def D_Lfigures (hr.mono (by decide)) (fun σ => L2N.passAt (L2N.takes_of rfl rfl rfl rfl) σ) rfl (da_cons (de_add de_str (de_sl (de_var 0) (do_some de_int) (do_some de_int))) da_nil) (.cons .nil)) de_int)) (dss_cons (ds_set (i := 3) sc_Ldayby.nd rfl (by first | exact Or.inl rfl | exact Or.inr rfl) (de_sub (de_def D_Lfigures (hr.mono (by decide)) (fun σ => L2N.passAt (L2N.takes_of rfl rfl rfl rfl) σ) rfl (da_cons (de_add de_str (de_sl (de_var 0) (do_some de_int) do_none)) da_nil) (.cons .nil)) de_int)) (dss_cons (ds_if (dt_w (dw_or (dt_lt (de_var 1) de_int) (dw_or (dt_lt (de_var 2) de_int) (dw_or (dt_gt (de_var 2) de_int) (dw_or (dt_lt (de_var 3) de_int) (dw_or1 (dt_gt (de_var 3) (de_ix (de_def D_Llengths (hr.mono (by decide)) (fun σ => L2N.passAt (L2N.takes_of rfl rfl rfl rfl) σ) rfl (da_cons (de_var 1) da_nil) (.cons .nil)) (de_sub (de_var 2) de_int))))))))) (dss_one (ds_ret de_non)) dss_nil) (dss_one (ds_ret (de_ix (de_def D_Lday (hr.mono (by decide)) (fun σ => L2N.passAt (L2N.takes_of rfl rfl rfl rfl) σ) rfl (da_cons (de_lst (da_cons (de_sub (de_var 1) de_int) (da_cons (de_sub (de_var 2) de_int) (da_cons (de_sub (de_var 3) de_int) da_nil)))) da_nil) (.cons .nil)) de_int))))))))
/-! _law_cell_by -/
abbrev s_Lcellby : Stmt := top 49
noncomputable def t_Lcellby : CS := (dseq (dife (dtv (d2 fEq (dv 0) (dk (.int 0)))) (dret (dcall m_Lnumberby (dcons (dv 1) dnil))) dskip) (dseq (dife (dtv (d2 fEq (dv 0) (dk (.int 2)))) (dret (dcall m_Ldayby (dcons (dv 1) dnil))) dskip) (dseq (dset 2 (dbi fAll (dcons (dlc (dit (dv 1)) (.nm 3) [3] (dyes true) (d2 fIn (dv 3) (dk (.str "abcdefghijklmnopqrstuvwxyz")))) dnil))) (dseq (dife (dand (dtv (dv 2)) (dtv (dchain leB leB (dk (.int 1)) (dbi fLen (dcons (dv 1) dnil)) (dk (.int 8))))) (dret (dv 1)) dskip) (dret (dk .none))))))
noncomputable def m_Lcellby : List D → Option Rt := runD 4 t_Lcellby
theorem sc_Lcellby : FnScope ["_law_kind", "_law_text", "_law_plain", "_law_sign"] ["_law_kind", "_law_text"] (defScope s_Lcellby) := ⟨rfl, rfl, rfl, by decide +kernel, rfl, by decide +kernel, by decide +kernel⟩
theorem ok_Lcellby (Tx : Txt P w K mg base) (F : Fdef K mg "_law_cell_by" "_law_cell_by" s_Lcellby ["_law_kind", "_law_text"]) (D_Lnumberby : Dok P w K mg base (L2N.CX P w) 2 "_law_number_by" ["_law_text"] m_Lnumberby) (D_Ldayby : Dok P w K mg base (L2N.CX P w) 3 "_law_day_by" ["_law_text"] m_Ldayby) : Dok P w K mg base (L2N.CX P w) 4 "_law_cell_by" ["_law_kind", "_law_text"] m_Lcellby :=
  dokN F sc_Lcellby (by decide) fun f cdv A outer s H E F0 hr => (dss_cons (ds_if (dt_eq (huOf hr) (de_var 0) de_int) (dss_one (ds_ret (de_def D_Lnumberby (hr.mono (by decide)) (fun σ => L2N.passAt (L2N.takes_of rfl rfl rfl rfl) σ) rfl (da_cons (de_var 1) da_nil) (.cons .nil)))) dss_nil) (dss_cons (ds_if (dt_eq (huOf hr) (de_var 0) de_int) (dss_one (ds_ret (de_def D_Ldayby (hr.mono (by decide)) (fun σ => L2N.passAt (L2N.takes_of rfl rfl rfl rfl) σ) rfl (da_cons (de_var 1) da_nil) (.cons .nil)))) dss_nil) (dss_cons (ds_set (i := 2) sc_Lcellby.nd rfl (by first | exact Or.inl rfl | exact Or.inr rfl) (de_all rfl rfl Tx.b_all (de_lc rfl sc_Lcellby.nd (by exact (di_any (de_var 1))) (blkOk_by (own := [("_law_sign", 3)]) rfl) (by decide) (fun _ _ _ _ _ _ _ => (dg_name 3 sc_Lcellby.nd rfl (by first | exact Or.inl rfl | exact Or.inr rfl))) (fun _ _ _ _ _ => dts_nil) (fun _ _ _ _ _ _ _ => (de_in (huOf' hr) (de_var 3) de_str))))) (dss_cons (ds_if (dt_w (dw_and (dt_val (de_var 2)) (dw_and1 (dt_lele de_int (de_len rfl Tx.b_len (de_var 1)) de_int)))) (dss_one (ds_ret (de_var 1))) dss_nil) (dss_one (ds_ret de_non))))))
/-! _law_made -/
abbrev s_Lmade : Stmt := top 50
noncomputable def t_Lmade : CS := (dseq (dset 2 (dk (.str " !\"#$&'()*+,-./0123456789:;<=>?@ABCDEFGHIJKLMNOPQRSTUVWXYZ[\\]^_`abcdefghijklmnopqrstuvwxyz{|}~\n"))) (dseq (dset 3 (d2 fIx (dv 2) (d2 fMod (d2 fIx (dv 1) (dk (.int 3))) (dbi fLen (dcons (dv 2) dnil))))) (dseq (dset 4 (d2 fMod (d2 fIx (dv 1) (dk (.int 4))) (d2 fAdd (dbi fLen (dcons (dv 0) dnil)) (dk (.int 1))))) (dseq (dset 5 (dlst (dcons (dk (.str "")) (dcons (dk (.str "--")) (dcons (dk (.str "+5")) (dcons (dk (.str "05")) (dcons (dk (.str "-0")) (dcons (dk (.str "0")) (dcons (dk (.str "5/1")) (dcons (dk (.str "2/4")) (dcons (dk (.str "7/61")) (dcons (dk (.str "1000000000000000000")) (dcons (dk (.str "-999999999999999999/59")) dnil))))))))))))) (dseq (dset 5 (d2 fAdd (dv 5) (dlst (dcons (dk (.str "0999-12-31")) (dcons (dk (.str "1000-01-01")) (dcons (dk (.str "8999-12-31")) (dcons (dk (.str "9000-01-01")) (dcons (dk (.str "1900-02-29")) (dcons (dk (.str "2000-02-29")) (dcons (dk (.str "2001-00-10")) dnil)))))))))) (dseq (dset 5 (d2 fAdd (dv 5) (dlst (dcons (dk (.str "2001-13-01")) (dcons (dk (.str "2001-04-31")) (dcons (dk (.str "2001-4-3")) (dcons (dk (.str "abcdefghi")) (dcons (dk (.str "aB")) (dcons (dk (.str "a b")) (dcons (dk (.str "None")) (dcons (dk (.str "1/0")) (dcons (dk (.str "/2")) (dcons (dk (.str "5/")) (dcons (dk (.str "5/-2")) dnil)))))))))))))) (dseq (dset 5 (d2 fAdd (dv 5) (dlst (dcons (dk (.str "none")) (dcons (dk (.str "1//2")) (dcons (dk (.str "- 5")) (dcons (dk (.str "0/5")) (dcons (dk (.str "2004-02-29")) (dcons (dk (.str "2100-02-28")) (dcons (dk (.str "2001-01-00")) (dcons (dk (.str "1e5")) (dcons (dk (.str "1_000")) (dcons (dk (.str "1.5")) (dcons (dk (.str "3/05")) dnil)))))))))))))) (dseq (dset 6 (dlst (dcons (d2 fAdd (d2 fAdd (dsl (dv 0) none (some (dv 4))) (dv 3)) (dsl (dv 0) (some (dv 4)) none)) (dcons (d2 fAdd (d2 fAdd (dsl (dv 0) none (some (dv 4))) (dv 3)) (dsl (dv 0) (some (d2 fAdd (dv 4) (dk (.int 1)))) none)) (dcons (d2 fAdd (dsl (dv 0) none (some (dv 4))) (dsl (dv 0) (some (d2 fAdd (dv 4) (dk (.int 1)))) none)) (dcons (d2 fAdd (dv 0) (dk (.str "\n"))) dnil)))))) (dseq (dset 6 (d2 fAdd (dv 6) (dlst (dcons (d2 fAdd (dk (.str " ")) (dv 0)) (dcons (d2 fAdd (dv 0) (dk (.str " "))) (dcons (d2 fIx (dv 5) (d2 fMod (d2 fIx (dv 1) (dk (.int 3))) (dk (.int 40)))) (dcons (d2 fAdd (dv 0) (dv 0)) (dcons (d2 fAdd (d2 fAdd (dsl (dv 0) none (some (dv 4))) (dbi fStr (dcons (d2 fMod (d2 fIx (dv 1) (dk (.int 3))) (dk (.int 10))) dnil))) (dsl (dv 0) (some (dv 4)) none)) dnil)))))))) (dseq (dapp 6 (d2 fAdd (dk (.str "-")) (dv 0))) (dret (d2 fIx (dv 6) (d2 fIx (dv 1) (dk (.int 2)))))))))))))))
noncomputable def m_Lmade : List D → Option Rt := runD 7 t_Lmade
theorem sc_Lmade : FnScope ["_law_text", "_law_d", "_law_some", "_law_sign", "_law_at", "_law_odd", "_law_choices"] ["_law_text", "_law_d"] (defScope s_Lmade) := ⟨rfl, rfl, rfl, by decide +kernel, rfl, by decide +kernel, by decide +kernel⟩
theorem ok_Lmade (Tx : Txt P w K mg base) (F : Fdef K mg "_law_made" "_law_made" s_Lmade ["_law_text", "_law_d"])  : Dok P w K mg base (L2N.CX P w) 1 "_law_made" ["_law_text", "_law_d"] m_Lmade :=
  dokN F sc_Lmade (by decide) fun f cdv A outer s H E F0 hr => (dss_cons (ds_set (i := 2) sc_Lmade.nd rfl (by first | exact Or.inl rfl | exact Or.inr rfl) de_str) (dss_cons (ds_set (i := 3) sc_Lmade.nd rfl (by first | exact Or.inl rfl | exact Or.inr rfl) (de_ix (de_var 2) (de_mod (de_ix (de_var 1) de_int) (de_len rfl Tx.b_len (de_var 2))))) (dss_cons (ds_set (i := 4) sc_Lmade.nd rfl (by first | exact Or.inl rfl | exact Or.inr rfl) (de_mod (de_ix (de_var 1) de_int) (de_add (de_len rfl Tx.b_len (de_var 0)) de_int))) (dss_cons (ds_set (i := 5) sc_Lmade.nd rfl (by first | exact Or.inl rfl | exact Or.inr rfl) (de_lst (da_cons de_str (da_cons de_str (da_cons de_str (da_cons de_str (da_cons de_str (da_cons de_str (da_cons de_str (da_cons de_str (da_cons de_str (da_cons de_str (da_cons de_str da_nil))))))))))))) (dss_cons (ds_set (i := 5) sc_Lmade.nd rfl (by first | exact Or.inl rfl | exact Or.inr rfl) (de_add (de_var 5) (de_lst (da_cons de_str (da_cons de_str (da_cons de_str (da_cons de_str (da_cons de_str (da_cons de_str (da_cons de_str da_nil)))))))))) (dss_cons (ds_set (i := 5) sc_Lmade.nd rfl (by first | exact Or.inl rfl | exact Or.inr rfl) (de_add (de_var 5) (de_lst (da_cons de_str (da_cons de_str (da_cons de_str (da_cons de_str (da_cons de_str (da_cons de_str (da_cons de_str (da_cons de_str (da_cons de_str (da_cons de_str (da_cons de_str da_nil)))))))))))))) (dss_cons (ds_set (i := 5) sc_Lmade.nd rfl (by first | exact Or.inl rfl | exact Or.inr rfl) (de_add (de_var 5) (de_lst (da_cons de_str (da_cons de_str (da_cons de_str (da_cons de_str (da_cons de_str (da_cons de_str (da_cons de_str (da_cons de_str (da_cons de_str (da_cons de_str (da_cons de_str da_nil)))))))))))))) (dss_cons (ds_set (i := 6) sc_Lmade.nd rfl (by first | exact Or.inl rfl | exact Or.inr rfl) (de_lst (da_cons (de_add (de_add (de_sl (de_var 0) do_none (do_some (de_var 4))) (de_var 3)) (de_sl (de_var 0) (do_some (de_var 4)) do_none)) (da_cons (de_add (de_add (de_sl (de_var 0) do_none (do_some (de_var 4))) (de_var 3)) (de_sl (de_var 0) (do_some (de_add (de_var 4) de_int)) do_none)) (da_cons (de_add (de_sl (de_var 0) do_none (do_some (de_var 4))) (de_sl (de_var 0) (do_some (de_add (de_var 4) de_int)) do_none)) (da_cons (de_add (de_var 0) de_str) da_nil)))))) (dss_cons (ds_set (i := 6) sc_Lmade.nd rfl (by first | exact Or.inl rfl | exact Or.inr rfl) (de_add (de_var 6) (de_lst (da_cons (de_add de_str (de_var 0)) (da_cons (de_add (de_var 0) de_str) (da_cons (de_ix (de_var 5) (de_mod (de_ix (de_var 1) de_int) de_int)) (da_cons (de_add (de_var 0) (de_var 0)) (da_cons (de_add (de_add (de_sl (de_var 0) do_none (do_some (de_var 4))) (de_strT rfl Tx.b_str (de_mod (de_ix (de_var 1) de_int) de_int))) (de_sl (de_var 0) (do_some (de_var 4)) do_none)) da_nil)))))))) (dss_cons (ds_append (i := 6) rfl (de_add de_str (de_var 0))) (dss_one (ds_ret (de_ix (de_var 6) (de_ix (de_var 1) de_int))))))))))))))
/-! _law_alike -/
abbrev s_Lalike : Stmt := top 51
noncomputable def t_Lalike : CS := (dseq (dife (dor (dtv (d2 fIs (dv 1) (dk .none))) (dtv (disi "str" (dv 1)))) (dret (dandV (d2 fEq (dv 0) (dv 1)) (d2 fEq (disi "str" (dv 0)) (disi "str" (dv 1))))) dskip) (dseq (dife (dnot (dtv (disi "tuple" (dv 1)))) (dret (dandV (dcall m_Lwhole (dcons (dv 0) dnil)) (d2 fEq (dv 0) (dv 1)))) dskip) (dseq (dife (dor (dnot (dtv (disi "tuple" (dv 0)))) (dtv (d2 fNe (dbi fLen (dcons (dv 0) dnil)) (dk (.int 2))))) (dret (dk (.bool false))) dskip) (dret (dandV (dcall m_Lwhole (dcons (d2 fIx (dv 0) (dk (.int 0))) dnil)) (dandV (dcall m_Lwhole (dcons (d2 fIx (dv 0) (dk (.int 1))) dnil)) (d2 fEq (dv 0) (dv 1))))))))
noncomputable def m_Lalike : List D → Option Rt := runD 2 t_Lalike
theorem sc_Lalike : FnScope ["_law_found", "_law_due"] ["_law_found", "_law_due"] (defScope s_Lalike) := ⟨rfl, rfl, rfl, by decide +kernel, rfl, by decide +kernel, by decide +kernel⟩
theorem ok_Lalike (Tx : Txt P w K mg base) (F : Fdef K mg "_law_alike" "_law_alike" s_Lalike ["_law_found", "_law_due"]) (D_Lwhole : Dok P w K mg base (L2N.CX P w) 1 "_law_whole" ["_law_found"] m_Lwhole) : Dok P w K mg base (L2N.CX P w) 2 "_law_alike" ["_law_found", "_law_due"] m_Lalike :=
  dokN F sc_Lalike (by decide) fun f cdv A outer s H E F0 hr => (dss_cons (ds_if (dt_w (dw_or (dt_is (de_var 1) de_non) (dw_or1 (dt_val (de_isi kitT_str rfl rfl Tx.b_isinstance rfl Tx.b_str (de_var 1)))))) (dss_one (ds_ret (de_and (de_eq (huOf hr) (de_var 0) (de_var 1)) (de_one (de_eq (huOf hr) (de_isi kitT_str rfl rfl Tx.b_isinstance rfl Tx.b_str (de_var 0)) (de_isi kitT_str rfl rfl Tx.b_isinstance rfl Tx.b_str (de_var 1))))))) dss_nil) (dss_cons (ds_if (dt_not (dt_val (de_isi kitT_tuple rfl rfl Tx.b_isinstance rfl Tx.b_tuple (de_var 1)))) (dss_one (ds_ret (de_and (de_def D_Lwhole (hr.mono (by decide)) (fun σ => L2N.passAt (L2N.takes_of rfl rfl rfl rfl) σ) rfl (da_cons (de_var 0) da_nil) (.cons .nil)) (de_one (de_eq (huOf hr) (de_var 0) (de_var 1)))))) dss_nil) (dss_cons (ds_if (dt_w (dw_or (dt_not (dt_val (de_isi kitT_tuple rfl rfl Tx.b_isinstance rfl Tx.b_tuple (de_var 0)))) (dw_or1 (dt_ne (huOf hr) (de_len rfl Tx.b_len (de_var 0)) de_int)))) (dss_one (ds_ret de_bl)) dss_nil) (dss_one (ds_ret (de_and (de_def D_Lwhole (hr.mono (by decide)) (fun σ => L2N.passAt (L2N.takes_of rfl rfl rfl rfl) σ) rfl (da_cons (de_ix (de_var 0) de_int) da_nil) (.cons .nil)) (de_and (de_def D_Lwhole (hr.mono (by decide)) (fun σ => L2N.passAt (L2N.takes_of rfl rfl rfl rfl) σ) rfl (da_cons (de_ix (de_var 0) de_int) da_nil) (.cons .nil)) (de_one (de_eq (huOf hr) (de_var 0) (de_var 1))))))))))
/-! _law_refused -/
abbrev s_Lrefused : Stmt := top 52
noncomputable def t_Lrefused : CS := (dseq (dtryAs (ddrop (dcall m_readcell (dcons (dv 0) (dcons (dv 1) dnil)))) isA_NoTable 2 (fun y => (dseq (dife (dor (dtv (disE (isB_NoNumber y.cls) 2)) (dor (dtv (disE (isB_NoDay y.cls) 2)) (dnot (dtv (disE (isB_ValueError y.cls) 2))))) (dret (dk (.bool false))) dskip) (dret (dandV (disE (isB_MarkError y.cls) 2) (d2 fIs (dxf y "row" isF_row 2) (dk .none))))))) (dret (dk (.bool false))))
noncomputable def m_Lrefused : List D → Option Rt := runD 3 t_Lrefused
theorem sc_Lrefused : FnScope ["_law_kind", "_law_text", "e"] ["_law_kind", "_law_text"] (defScope s_Lrefused) := ⟨rfl, rfl, rfl, by decide +kernel, rfl, by decide +kernel, by decide +kernel⟩
theorem ok_Lrefused (Tx : Txt P w K mg base) (F : Fdef K mg "_law_refused" "_law_refused" s_Lrefused ["_law_kind", "_law_text"]) (D_readcell : Dok P w K mg base (L2.CX P w) 6 "read_cell" ["kind", "text"] m_readcell) : Dok P w K mg base (L2.CX P w) 7 "_law_refused" ["_law_kind", "_law_text"] m_Lrefused :=
  dokD F sc_Lrefused (by decide) fun f cdv A outer s H E F0 hr => (dss_cons (Tx.N_NoTable fun cv gC hA => ds_tryAs (i := 2) rfl rfl sc_Lrefused.nd rfl rfl ⟨rfl, by decide, Or.inl gC⟩ (L2.takes_of rfl rfl rfl rfl) rfl hA (fun W pn xe tk0 po0 => (dss_one (ds_expr (de_def D_readcell (hr.mono (by decide)) (fun σ => L2.passAt tk0 σ) rfl (da_cons (de_var 0) (da_cons (de_var 1) da_nil)) (.cons (.cons .nil)))))) (fun a oe cls d pn y hz hf => (dss_cons (ds_if (dt_w (dw_or (dt_val (Tx.E_NoNumber fun _ gC hB => de_isE hz hf hB (pe_glob (v := .ref _) rfl gC rfl) (fun _ h => h) (i := 2) rfl rfl Tx.b_isinstance (by first | exact Or.inl rfl | exact Or.inr (Or.inl rfl)))) (dw_or (dt_val (Tx.E_NoDay fun _ gC hB => de_isE hz hf hB (pe_glob (v := .ref _) rfl gC rfl) (fun _ h => h) (i := 2) rfl rfl Tx.b_isinstance (by first | exact Or.inl rfl | exact Or.inr (Or.inl rfl)))) (dw_or1 (dt_not (dt_val (de_isE hz hf Tx.B_ValueError (pe_bltn (v := .ty "ValueError") rfl Tx.b_ValueError rfl rfl) (fun _ h => h) (i := 2) rfl rfl Tx.b_isinstance (by first | exact Or.inl rfl | exact Or.inr (Or.inl rfl))))))))) (dss_one (ds_ret de_bl)) dss_nil) (dss_one (ds_ret (de_and (Tx.E_MarkError fun _ gC hB => de_isE hz hf hB (pe_glob (v := .ref _) rfl gC rfl) (fun _ h => h) (i := 2) rfl rfl Tx.b_isinstance (by first | exact Or.inl rfl | exact Or.inr (Or.inl rfl))) (de_one (de_is (de_xf hz hf Tx.F_row (i := 2) rfl (by first | exact Or.inl rfl | exact Or.inr (Or.inl rfl))) de_non)))))))) (dss_one (ds_ret de_bl)))
/-! law -/
abbrev s_law : Stmt := top 53
noncomputable def t_law : CS := (dseq (dfor (dit (dsl (d2 fAdd (dv 0) (dlst (dcons (dk (.int 0)) dnil))) none (some (dk (.int 64))))) (.nm 1) (dseq (dset 2 (d2 fAdd (dlst (dcons (dk (.int 3)) (dcons (dk (.int 9)) (dcons (dk (.int 10)) (dcons (d2 fMul (d2 fMul (dk (.int 95)) (dk (.int 3))) (dk (.int 40))) (dcons (dk (.int 1000)) (dcons (dk (.int 8)) (dcons (dk (.int 2)) dnil)))))))) (dmulL (dlst (dcons (dk (.int 26)) dnil)) (dk (.int 8))))) (dseq (dset 3 (dcall m_Ldraws (dcons (dv 1) (dcons (d2 fAdd (dv 2) (dlst (dcons (dk (.int 2)) (dcons (dk (.int 4)) (dcons (d2 fPow (dk (.int 10)) (dk (.int 9))) (dcons (d2 fPow (dk (.int 10)) (dk (.int 9))) (dcons (dk (.int 90)) (dcons (dk (.int 8000)) (dcons (dk (.int 12)) (dcons (dk (.int 31)) dnil)))))))))) dnil)))) (dseq (dset 4 (d2 fIx (dlst (dcons (dk (.str "number")) (dcons (dk (.str "word")) (dcons (dk (.str "day")) dnil)))) (d2 fIx (dv 3) (dk (.int 0))))) (dseq (dasg (.tup [(.nm 11), (.nm 12)]) (dcall m_Lgood (dcons (dv 3) dnil))) (dseq (dset 5 (dcall m_showcell (dcons (dv 4) (dcons (dv 11) dnil)))) (dseq (dife (dor (dnot (dtv (disi "str" (dv 5)))) (dor (dtv (d2 fNe (dv 5) (dv 12))) (dnot (dtv (dcall m_Lalike (dcons (dcall m_readcell (dcons (dv 4) (dcons (dv 12) dnil))) (dcons (dv 11) dnil))))))) (dret (dk (.bool false))) dskip) (dseq (dset 6 (d2 fMod (d2 fAdd (d2 fIx (dv 3) (dk (.int 0))) (d2 fMul (dbi fInt (dcons (d2 fEq (d2 fMod (d2 fIx (dv 3) (dk (.int 4))) (dk (.int 7))) (dk (.int 3))) dnil)) (d2 fAdd (dk (.int 1)) (d2 fMod (d2 fIx (dv 3) (dk (.int 3))) (dk (.int 2)))))) (dk (.int 3)))) (dseq (dset 7 (d2 fIx (dlst (dcons (dk (.str "number")) (dcons (dk (.str "word")) (dcons (dk (.str "day")) dnil)))) (dv 6))) (dseq (dset 8 (dcall m_Lmade (dcons (dv 12) (dcons (dv 3) dnil)))) (dseq (dset 9 (dcall m_Lcellby (dcons (dv 6) (dcons (dv 8) dnil)))) (dseq (dife (dor (dtv (d2 fEq (dv 8) (dk (.str "-")))) (dtv (d2 fIsNot (dv 9) (dk .none)))) (dife (dnot (dtv (dcall m_Lalike (dcons (dcall m_readcell (dcons (dv 7) (dcons (dv 8) dnil))) (dcons (dv 9) dnil))))) (dret (dk (.bool false))) dskip) (dife (dnot (dtv (dcall m_Lrefused (dcons (dv 7) (dcons (dv 8) dnil))))) (dret (dk (.bool false))) dskip)) (dseq (dset 10 (d2 fIx (dlst (dcons (dk .none) (dcons (dk (.int 5)) (dcons (dk (.bool true)) (dcons (dlst (dcons (dv 12) dnil)) (dcons (dtup (dcons (dv 12) dnil)) (dcons (d2 fEq (dv 11) (dv 12)) dnil))))))) (d2 fMod (d2 fIx (dv 3) (dk (.int 3))) (dk (.int 6))))) (dife (dor (dnot (dtv (dcall m_Lrefused (dcons (dv 4) (dcons (dv 10) dnil))))) (dnot (dtv (dcall m_Lalike (dcons (dcall m_readcell (dcons (dv 4) (dcons (dv 12) dnil))) (dcons (dv 11) dnil)))))) (dret (dk (.bool false))) dskip)))))))))))))) (dret (dk (.bool true))))
noncomputable def m_law : List D → Option Rt := runD 13 t_law
theorem sc_law : FnScope ["_law_script", "_law_cell", "_law_tops", "_law_d", "_law_kind", "_law_shown", "_law_other", "_law_word_here", "_law_made_here", "_law_due", "_law_odd", "_law_good_here", "_law_text"] ["_law_script"] (defScope s_law) := ⟨rfl, rfl, rfl, by decide +kernel, rfl, by decide +kernel, by decide +kernel⟩
theorem ok_law (Tx : Txt P w K mg base) {f : Addr} {fd : FuncData} (F : L2.Fun K "law" "law" s_law f fd) (D_Ldraws : Dok P w K mg base (L2N.CX P w) 1 "_law_draws" ["_law_cell", "_law_tops"] m_Ldraws) (D_Lgood : Dok P w K mg base (L2N.CX P w) 3 "_law_good" ["_law_d"] m_Lgood) (D_showcell : Dok P w K mg base (L2N.CX P w) 5 "show_cell" ["kind", "cell"] m_showcell) (D_Lalike : Dok P w K mg base (L2N.CX P w) 2 "_law_alike" ["_law_found", "_law_due"] m_Lalike) (D_readcell : Dok P w K mg base (L2.CX P w) 6 "read_cell" ["kind", "text"] m_readcell) (D_Lmade : Dok P w K mg base (L2N.CX P w) 1 "_law_made" ["_law_text", "_law_d"] m_Lmade) (D_Lcellby : Dok P w K mg base (L2N.CX P w) 4 "_law_cell_by" ["_law_kind", "_law_text"] m_Lcellby) (D_Lrefused : Dok P w K mg base (L2.CX P w) 7 "_law_refused" ["_law_kind", "_law_text"] m_Lrefused) : FnOk P w K mg base (L2.CX P w) 8 f fd ["_law_script"] (spD K mg 1 m_law) :=
  fnD F sc_law (by decide) fun cdv A outer s H E F0 hr => (dss_cons (ds_for (L2.passes_of rfl) rfl (di_any (de_sl (de_add (de_var 0) (de_lst (da_cons de_int da_nil))) do_none (do_some de_int))) (dg_name 1 sc_law.nd rfl (by first | exact Or.inl rfl | exact Or.inr rfl)) (dss_cons (ds_set (i := 2) sc_law.nd rfl (by first | exact Or.inl rfl | exact Or.inr rfl) (de_add (de_lst (da_cons de_int (da_cons de_int (da_cons de_int (da_cons (de_mul (de_mul de_int de_int) de_int) (da_cons de_int (da_cons de_int (da_cons de_int da_nil)))))))) (de_mulL (de_lst (da_cons de_int da_nil)) de_int))) (dss_cons (ds_set (i := 3) sc_law.nd rfl (by first | exact Or.inl rfl | exact Or.inr rfl) (de_def D_Ldraws (hr.mono (by decide)) (fun σ => L2N.passAt (takesN_of (L2.takes_of rfl rfl rfl rfl)) σ) rfl (da_cons (de_var 1) (da_cons (de_add (de_var 2) (de_lst (da_cons de_int (da_cons de_int (da_cons (de_pow de_int de_int) (da_cons (de_pow de_int de_int) (da_cons de_int (da_cons de_int (da_cons de_int (da_cons de_int da_nil)))))))))) da_nil)) (.cons (.cons .nil)))) (dss_cons (ds_set (i := 4) sc_law.nd rfl (by first | exact Or.inl rfl | exact Or.inr rfl) (de_ix (de_lst (da_cons de_str (da_cons de_str (da_cons de_str da_nil)))) (de_ix (de_var 3) de_int))) (dss_cons (ds_asg (de_def D_Lgood (hr.mono (by decide)) (fun σ => L2N.passAt (takesN_of (L2.takes_of rfl rfl rfl rfl)) σ) rfl (da_cons (de_var 3) da_nil) (.cons .nil)) (dg_tup rfl (dgs_cons (dg_name 11 sc_law.nd rfl (by first | exact Or.inl rfl | exact Or.inr rfl)) (dgs_cons (dg_name 12 sc_law.nd rfl (by first | exact Or.inl rfl | exact Or.inr rfl)) dgs_nil)))) (dss_cons (ds_set (i := 5) sc_law.nd rfl (by first | exact Or.inl rfl | exact Or.inr rfl) (de_def D_showcell (hr.mono (by decide)) (fun σ => L2N.passAt (takesN_of (L2.takes_of rfl rfl rfl rfl)) σ) rfl (da_cons (de_var 4) (da_cons (de_var 11) da_nil)) (.cons (.cons .nil)))) (dss_cons (ds_if (dt_w (dw_or (dt_not (dt_val (de_isi kitT_str rfl rfl Tx.b_isinstance rfl Tx.b_str (de_var 5)))) (dw_or (dt_ne (huOf hr) (de_var 5) (de_var 12)) (dw_or1 (dt_not (dt_val (de_def D_Lalike (hr.mono (by decide)) (fun σ => L2N.passAt (takesN_of (L2.takes_of rfl rfl rfl rfl)) σ) rfl (da_cons (de_def D_readcell (hr.mono (by decide)) (fun σ => L2.passAt (L2.takes_of rfl rfl rfl rfl) σ) rfl (da_cons (de_var 4) (da_cons (de_var 12) da_nil)) (.cons (.cons .nil))) (da_cons (de_var 11) da_nil)) (.cons (.cons .nil))))))))) (dss_one (ds_ret de_bl)) dss_nil) (dss_cons (ds_set (i := 6) sc_law.nd rfl (by first | exact Or.inl rfl | exact Or.inr rfl) (de_mod (de_add (de_ix (de_var 3) de_int) (de_mul (de_intT rfl Tx.b_int (de_eq (huOf hr) (de_mod (de_ix (de_var 3) de_int) de_int) de_int)) (de_add de_int (de_mod (de_ix (de_var 3) de_int) de_int)))) de_int)) (dss_cons (ds_set (i := 7) sc_law.nd rfl (by first | exact Or.inl rfl | exact Or.inr rfl) (de_ix (de_lst (da_cons de_str (da_cons de_str (da_cons de_str da_nil)))) (de_var 6))) (dss_cons (ds_set (i := 8) sc_law.nd rfl (by first | exact Or.inl rfl | exact Or.inr rfl) (de_def D_Lmade (hr.mono (by decide)) (fun σ => L2N.passAt (takesN_of (L2.takes_of rfl rfl rfl rfl)) σ) rfl (da_cons (de_var 12) (da_cons (de_var 3) da_nil)) (.cons (.cons .nil)))) (dss_cons (ds_set (i := 9) sc_law.nd rfl (by first | exact Or.inl rfl | exact Or.inr rfl) (de_def D_Lcellby (hr.mono (by decide)) (fun σ => L2N.passAt (takesN_of (L2.takes_of rfl rfl rfl rfl)) σ) rfl (da_cons (de_var 6) (da_cons (de_var 8) da_nil)) (.cons (.cons .nil)))) (dss_cons (ds_if (dt_w (dw_or (dt_eq (huOf hr) (de_var 8) de_str) (dw_or1 (dt_isnot (de_var 9) de_non)))) (dss_one (ds_if (dt_not (dt_val (de_def D_Lalike (hr.mono (by decide)) (fun σ => L2N.passAt (takesN_of (L2.takes_of rfl rfl rfl rfl)) σ) rfl (da_cons (de_def D_readcell (hr.mono (by decide)) (fun σ => L2.passAt (L2.takes_of rfl rfl rfl rfl) σ) rfl (da_cons (de_var 7) (da_cons (de_var 8) da_nil)) (.cons (.cons .nil))) (da_cons (de_var 9) da_nil)) (.cons (.cons .nil))))) (dss_one (ds_ret de_bl)) dss_nil)) (dss_one (ds_if (dt_not (dt_val (de_def D_Lrefused (hr.mono (by decide)) (fun σ => L2.passAt (L2.takes_of rfl rfl rfl rfl) σ) rfl (da_cons (de_var 7) (da_cons (de_var 8) da_nil)) (.cons (.cons .nil))))) (dss_one (ds_ret de_bl)) dss_nil))) (dss_cons (ds_set (i := 10) sc_law.nd rfl (by first | exact Or.inl rfl | exact Or.inr rfl) (de_ix (de_lst (da_cons de_non (da_cons de_int (da_cons de_bl (da_cons (de_lst (da_cons (de_var 12) da_nil)) (da_cons (de_tup (da_cons (de_var 12) da_nil)) (da_cons (de_eq (huOf hr) (de_var 11) (de_var 12)) da_nil))))))) (de_mod (de_ix (de_var 3) de_int) de_int))) (dss_one (ds_if (dt_w (dw_or (dt_not (dt_val (de_def D_Lrefused (hr.mono (by decide)) (fun σ => L2.passAt (L2.takes_of rfl rfl rfl rfl) σ) rfl (da_cons (de_var 4) (da_cons (de_var 10) da_nil)) (.cons (.cons .nil))))) (dw_or1 (dt_not (dt_val (de_def D_Lalike (hr.mono (by decide)) (fun σ => L2N.passAt (takesN_of (L2.takes_of rfl rfl rfl rfl)) σ) rfl (da_cons (de_def D_readcell (hr.mono (by decide)) (fun σ => L2.passAt (L2.takes_of rfl rfl rfl rfl) σ) rfl (da_cons (de_var 4) (da_cons (de_var 12) da_nil)) (.cons (.cons .nil))) (da_cons (de_var 11) da_nil)) (.cons (.cons .nil)))))))) (dss_one (ds_ret de_bl)) dss_nil))))))))))))))) (dss_one (ds_ret de_bl)))
end
end K10

namespace DL
open PySem PySem.Spec PyProof.Rows L2
/-! texts as lists of signs -/
def S (l : List Nat) : Str := ⟨l.toArray⟩
theorem S_tl (z : Str) : S z.cps.toList = z := by cases z; simp [S]
theorem tl_S (l : List Nat) : (S l).cps.toList = l := by simp [S]
theorem S_len (l : List Nat) : (S l).length = l.length := by simp [S, Str.length]
theorem S_app (a b : List Nat) : S a ++ S b = S (a ++ b) := by
  show Str.append (S a) (S b) = _
  simp [Str.append, S]
theorem S_inj {a b : List Nat} : (S a = S b) ↔ a = b := by
  constructor
  · intro h
    have := congrArg (fun z : Str => z.cps.toList) h
    simpa [S] using this
  · intro h; rw [h]
theorem S_beq (a b : List Nat) : (S a == S b) = (a == b) := by
  rw [Bool.eq_iff_iff]
  simp [S_inj]
theorem lit (s : String) : Str.ofString s = S (s.toList.map Char.toNat) := by rw [Str.ofString_eq_toList]; rfl
theorem S_signs (l : List Nat) : signs (S l) = l.map fun c => .str (S [c]) := by simp [signs, S]
theorem S_cut (l : List Nat) (lo hi : Option Int) : cutS (S l) lo hi = S ((l.drop (HT.sIx l.length 0 lo)).take (HT.sIx l.length l.length hi - HT.sIx l.length 0 lo)) := by
  simp [cutS, S, Str.length]
theorem mk1 (c : Nat) : (⟨#[c]⟩ : Str) = S [c] := rfl
theorem S_in1 (c : Nat) (z : Str) : strIn (S [c]) z = decide (c ∈ z.cps.toList) := PySem.StrLaws.found_one z c
/-! kinds of an answer -/
abbrev okd (d : D) : Option Rt := some (.d d)
/-! a def's end, statement by statement -/
theorem fs_nx {t u : CS} {ℓ ℓ1 : LS} {r : Option Rt} (h : t ℓ = some (.nx, ℓ1)) (h2 : fin (u ℓ1) = r) : fin (dseq t u ℓ) = r := by unfold dseq; rw [h]; exact h2
theorem fs_ex {t u : CS} {ℓ ℓ1 : LS} {x : EX} (h : t ℓ = some (.ex x, ℓ1)) : fin (dseq t u ℓ) = some (.ex x) := by unfold dseq; rw [h]; rfl
theorem fs_rt {t u : CS} {ℓ ℓ1 : LS} {d : D} (h : t ℓ = some (.rt (.d d), ℓ1)) : fin (dseq t u ℓ) = some (.d d) := by unfold dseq; rw [h]; rfl
theorem dfor_of {src : CI} {p : Pat} {t : CS} {ℓ ℓ1 : LS} {ds : List D} {r : Option (Fl × LS)} (h : src ℓ = some (.ok ds ℓ1)) (h2 : dforL p t ds ℓ1 = r) : dfor src p t ℓ = r := by unfold dfor; rw [h]; exact h2
theorem dseq_nx {t u : CS} {ℓ ℓ1 : LS} {r : Option (Fl × LS)} (h : t ℓ = some (.nx, ℓ1)) (h2 : u ℓ1 = r) : dseq t u ℓ = r := by unfold dseq; rw [h]; exact h2
theorem dife_t {q : CT} {t u : CS} {ℓ ℓ1 : LS} {r : Option (Fl × LS)} (h : q ℓ = some (.ok true ℓ1)) (h2 : t ℓ1 = r) : dife q t u ℓ = r := by unfold dife; rw [h]; exact h2
theorem dife_f {q : CT} {t u : CS} {ℓ ℓ1 : LS} {r : Option (Fl × LS)} (h : q ℓ = some (.ok false ℓ1)) (h2 : u ℓ1 = r) : dife q t u ℓ = r := by unfold dife; rw [h]; exact h2
theorem ff_t {q : CT} {t u : CS} {ℓ ℓ1 : LS} {r : Option Rt} (h : q ℓ = some (.ok true ℓ1)) (h2 : fin (t ℓ1) = r) : fin (dife q t u ℓ) = r := by unfold dife; rw [h]; exact h2
theorem ff_f {q : CT} {t u : CS} {ℓ ℓ1 : LS} {r : Option Rt} (h : q ℓ = some (.ok false ℓ1)) (h2 : fin (u ℓ1) = r) : fin (dife q t u ℓ) = r := by unfold dife; rw [h]; exact h2
/-! loops -/
theorem dwhile_stop {q : CT} {t : CS} {ℓ ℓ1 : LS} (h : q ℓ = some (.ok false ℓ1)) : dwhile q t ℓ = some (.nx, ℓ1) := dwhile_of (n := 1) (by unfold dwhileN; rw [h])
theorem dwhile_go {q : CT} {t : CS} {ℓ ℓ1 ℓ2 : LS} {r : Fl × LS} (h : q ℓ = some (.ok true ℓ1)) (h2 : t ℓ1 = some (.nx, ℓ2)) (h3 : dwhile q t ℓ2 = some r) : dwhile q t ℓ = some r := by
  obtain ⟨n, h4⟩ := dwhile_some h3
  exact dwhile_of (n := n + 1) (by unfold dwhileN; rw [h]; simp only; rw [h2]; exact h4)
theorem dforL_nil {p : Pat} {t : CS} {ℓ : LS} : dforL p t [] ℓ = some (.nx, ℓ) := rfl
theorem dforL_go {p : Pat} {t : CS} {d : D} {ds : List D} {ℓ ℓ1 ℓ2 : LS} {r : Option (Fl × LS)} (h : bindP p d ℓ = some ℓ1) (h2 : t ℓ1 = some (.nx, ℓ2)) (h3 : dforL p t ds ℓ2 = r) : dforL p t (d :: ds) ℓ = r := by
  unfold dforL; rw [h]; simp only; rw [h2]; exact h3
theorem dforL_ex {p : Pat} {t : CS} {d : D} {ds : List D} {ℓ ℓ1 ℓ2 : LS} {x : EX} (h : bindP p d ℓ = some ℓ1) (h2 : t ℓ1 = some (.ex x, ℓ2)) : dforL p t (d :: ds) ℓ = some (.ex x, ℓ2) := by
  unfold dforL; rw [h]; simp only; rw [h2]
theorem dforL_rt {p : Pat} {t : CS} {d : D} {ds : List D} {ℓ ℓ1 ℓ2 : LS} {x : W} (h : bindP p d ℓ = some ℓ1) (h2 : t ℓ1 = some (.rt x, ℓ2)) : dforL p t (d :: ds) ℓ = some (.rt x, ℓ2) := by
  unfold dforL; rw [h]; simp only; rw [h2]
end DL

namespace K10
open PySem PySem.Spec PyProof.Rows L2 DL
theorem shp_int (i : Int) : shp (.int i) = true := rfl
theorem eqv_int (i j : Int) : PyData.eqv (.int i) (.int j) = (i == j) := by simp [PyData.eqv]
theorem gcd_step (a b : Int) (hb : 0 < b) : Int.gcd b (a.fmod b) = Int.gcd a b := by
  rw [Int.fmod_def, Int.mul_comm, Int.gcd_sub_mul_right_right, Int.gcd_comm]
theorem gcd_loop : ∀ (n : Nat) (a b : Int), 0 ≤ b → b.toNat ≤ n → ∃ a', dwhile (dtv (d2 fNe (dv 1) (dk (.int 0)))) (dpar 0 1 (dcons (dv 1) (dcons (d2 fMod (dv 0) (dv 1)) dnil))) [.im (.int a), .im (.int b)] = some (.nx, [.im (.int a'), .im (.int 0)]) ∧ a'.natAbs = Int.gcd a b := by
  have hq : ∀ a b : Int, dtv (d2 fNe (dv 1) (dk (.int 0))) [.im (.int a), .im (.int b)] = some (.ok (!(b == 0)) [.im (.int a), .im (.int b)]) := fun a b => by
    simp [dtv, arg, d2, bindE, dv, dk, peek, fNe, shp_int, eqv_int]
  have ht : ∀ a b : Int, b ≠ 0 → dpar 0 1 (dcons (dv 1) (dcons (d2 fMod (dv 0) (dv 1)) dnil)) [.im (.int a), .im (.int b)] = some (.nx, [.im (.int b), .im (.int (a.fmod b))]) := fun a b hb => by
    simp [arg, d2, bindE, dv, peek, hb, dpar, dcons, dnil, fMod, keepW]
  intro n
  induction n with
  | zero =>
    intro a b h0 hn
    obtain rfl : b = 0 := by omega
    exact ⟨a, dwhile_stop (hq a 0), by simp⟩
  | succ n ih =>
    intro a b h0 hn
    by_cases hb : b = 0
    · subst hb
      exact ⟨a, dwhile_stop (hq a 0), by simp⟩
    · have hb' : 0 < b := by omega
      have h1 := Int.fmod_lt_of_pos a hb'
      have h2 := Int.fmod_nonneg_of_pos a hb'
      obtain ⟨a', e, g⟩ := ih b (a.fmod b) h2 (by omega)
      have hbe : (b == 0) = false := beq_eq_false_iff_ne.mpr hb
      exact ⟨a', dwhile_go (by rw [hq, hbe]; rfl) (ht a b hb) e, by rw [g, gcd_step a b hb']⟩
theorem divisor_ok (a b : Int) (hb : 0 ≤ b) : m_divisor [.int a, .int b] = okd (.int (Int.gcd a b)) := by
  obtain ⟨a', e, g⟩ := gcd_loop b.toNat a b hb (Nat.le_refl _)
  unfold m_divisor t_divisor runD ini
  simp [dseq, e, fin, dret, dbi, dcons, dnil, arg, dv, peeks, peek, fAbs]
  rw [← g]
  omega
theorem ldivisor_ok (a b : Int) (hb : 0 ≤ b) : m_Ldivisor [.int a, .int b] = okd (.int (Int.gcd a b)) := divisor_ok a b hb
theorem iswhole_any (d : D) : m_iswhole [d] = okd (.bool (isiB "int" d && !isiB "bool" d)) := by
  unfold m_iswhole t_iswhole runD ini
  cases d <;> simp [fin, dret, dandV, bindE, arg, disi, d1, dv, peek, isiB, dnotV]
theorem lwhole_any (d : D) : m_Lwhole [d] = okd (.bool (isiB "int" d && !isiB "bool" d)) := iswhole_any d
theorem beq_dec (a b : Int) : (a == b) = decide (a = b) := by rw [Bool.eq_iff_iff]; simp
/-- a pair of whole numbers is a number -/
theorem isnumber_pair (a b : Int) : m_isnumber [.tuple [.int a, .int b]] = okd (.bool (decide (0 < b) && decide (Int.gcd a b = 1))) := by
  unfold m_isnumber t_isnumber runD ini
  by_cases hb : 0 < b
  · have hd := divisor_ok a b (by omega)
    simp [dseq, dife, dor, bindT, dnot, dtv, arg, disi, d1, bindE, dv, peek, isiB, dyes, d2, dbi, dcons, dnil, peeks, fLen, dk, fNe, shp_int, eqv_int, dskip, dasg, keepW, bindP, bindPs, dcall, iswhole_any, isSc, dret, dandV, fGt, hb, hd, fEq, fin]
    rw [Bool.eq_iff_iff]; simp; omega
  · simp [dseq, dife, dor, bindT, dnot, dtv, arg, disi, d1, bindE, dv, peek, isiB, dyes, d2, dbi, dcons, dnil, peeks, fLen, dk, fNe, shp_int, eqv_int, dskip, dasg, keepW, bindP, bindPs, dcall, iswhole_any, isSc, dret, dandV, fGt, hb, fEq, fin]
theorem atI0 {α : Type} (a b : α) : atI [a, b] 0 = some a := rfl
theorem atI1 {α : Type} (a b : α) : atI [a, b] 1 = some b := rfl
theorem istold_pair (a b : Int) : m_istold [.tuple [.int a, .int b]] = okd (.bool (decide (0 < b) && decide (Int.gcd a b = 1) && decide (a.natAbs < 1000000000000000000) && decide (b ≤ 60))) := by
  unfold m_istold t_istold runD ini
  have hn := isnumber_pair a b
  cases hc : (decide (0 < b) && decide (Int.gcd a b = 1)) with
  | false =>
    rw [hc] at hn
    simp [fin, dret, dandV, bindE, arg, dcall, dcons, dnil, dv, peeks, peek, hn, isSc, keepWs, keepW]
  | true =>
    rw [hc] at hn
    have e : decide ((if a < 0 then -a else a) < 1000000000000000000) = decide (a.natAbs < 1000000000000000000) := by
      rw [decide_eq_decide]; split <;> omega
    cases hd : decide (a.natAbs < 1000000000000000000) with
    | true =>
      rw [hd] at e
      simp [fin, dret, dandV, bindE, arg, dcall, dcons, dnil, dv, peeks, peek, hn, isSc, keepWs, keepW, d2, fLt, dbi, fAbs, fIx, atI0, atI1, dk, fPow, fLe, e]
    | false =>
      rw [hd] at e
      simp [fin, dret, dandV, bindE, arg, dcall, dcons, dnil, dv, peeks, peek, hn, isSc, keepWs, keepW, d2, fLt, dbi, fAbs, fIx, atI0, atI1, dk, fPow, fLe, e]
/-! ### figures -/
def dg (c : Nat) : Bool := decide (48 ≤ c) && decide (c ≤ 57)
theorem fig_mem (c : Nat) : decide (c ∈ (Str.ofString "0123456789").cps.toList) = dg c := by
  rw [lit, tl_S]
  have : (("0123456789" : String).toList.map Char.toNat) = [48, 49, 50, 51, 52, 53, 54, 55, 56, 57] := by decide
  rw [this, Bool.eq_iff_iff]
  simp [dg]
  omega
theorem dg_all {l : List Nat} (h : l.all dg = true) : PySem.NumText.AllDigits l := fun c hc => by
  have := List.all_eq_true.mp h c hc
  simpa [dg] using this
def figs (l : List Nat) : Option Nat := if l = [] then none else if 60 < l.length then none else if l.all dg = false then none else if (1 < l.length ∧ l.head? = some 48) then none else some (PySem.NumText.digitsVal l)
theorem int_figs {l : List Nat} (h : l.all dg = true) (h1 : l ≠ []) (h2 : l.length ≤ 4300) : PySem.intText? (S l) = some ((PySem.NumText.digitsVal l : Nat) : Int) := by
  have := PySem.intText_digits (x := S l) (by rw [tl_S]; exact dg_all h) (by rw [tl_S]; exact h1) (by rw [S_len]; exact h2)
  rw [tl_S] at this
  exact this
/-- for sign in text: if sign not in FIGURES: raise -/
theorem for_figs (u : CS) (r : Fl) (hr : ∀ ℓ, u ℓ = some (r, ℓ)) (hr2 : r ≠ .nx ∧ r ≠ .ct ∧ r ≠ .bk) (k : Nat) (z : D) : ∀ (l : List Nat) (x : L), ∃ y, dforL (.nm 1) (dife (dtv (d2 fNotIn (dv 1) (dk (.str (Str.ofString "0123456789"))))) u dskip) (l.map fun c => .str (S [c])) [.im z, x] =
    if l.all dg = true then some (.nx, [.im z, y]) else some (r, [.im z, y])
  | [], x => ⟨x, rfl⟩
  | c :: l, x => by
    have hb : bindP (.nm 1) (.str (S [c])) [.im z, x] = some [.im z, .im (.str (S [c]))] := rfl
    have ht : dife (dtv (d2 fNotIn (dv 1) (dk (.str (Str.ofString "0123456789"))))) u dskip [.im z, .im (.str (S [c]))] = if dg c = true then some (.nx, [.im z, .im (.str (S [c]))]) else some (r, [.im z, .im (.str (S [c]))]) := by
      simp only [dife, dtv, d2, bindE, arg, dv, dk, fNotIn, inB, S_in1, fig_mem, peek, List.getElem?_cons_succ, List.getElem?_cons_zero, Option.map]
      cases dg c <;> simp [hr, dskip]
    cases hd : dg c with
    | true =>
      obtain ⟨y, e⟩ := for_figs u r hr hr2 k z l (.im (.str (S [c])))
      rw [hd] at ht
      refine ⟨y, ?_⟩
      rw [List.map_cons, dforL_go hb ht e]
      simp [hd]
    | false =>
      rw [hd] at ht
      refine ⟨.im (.str (S [c])), ?_⟩
      rw [List.map_cons]
      unfold dforL
      rw [hb]
      simp only
      rw [ht]
      simp [hd]
      cases r with
      | nx => exact absurd rfl hr2.1
      | ct => exact absurd rfl hr2.2.1
      | bk => exact absurd rfl hr2.2.2
      | rt w => rfl
      | ex x => rfl
theorem str_eq_nil (l : List Nat) : (S l == Str.ofString "") = (l == []) := by rw [lit, S_beq]; rfl
theorem head_zero {l : List Nat} (h : l ≠ []) : ∃ c, atI l 0 = some c ∧ l.head? = some c := by
  cases l with
  | nil => exact absurd rfl h
  | cons c l => exact ⟨c, by simp [atI, ixN], rfl⟩
theorem Slen_ok {l : List Nat} (hl : l.length ≤ 1000) : ((S l).length ≤ 16777216) = True := by rw [S_len]; simp; omega
theorem digits_one {c : Nat} : (S [c] == Str.ofString "0") = (c == 48) := by
  rw [lit, S_beq, Bool.eq_iff_iff]
  have : (("0" : String).toList.map Char.toNat) = [48] := by decide
  rw [this]; simp
theorem lit0 : Str.ofString "0" = S [48] := by rw [lit]; rfl
theorem countof_ok (l : List Nat) (hl : l.length ≤ 1000) : m_countof [.str (S l)] = (match figs l with
    | some n => okd (.int n)
    | none => some (.ex ⟨"NoNumber", none⟩)) := by
  have hz : (l.length ≤ 16777216) = True := by simp; omega
  unfold m_countof runD figs
  unfold t_countof
  show fin (dseq _ _ [.im (.str (S l)), .un]) = _
  by_cases h1 : l = []
  · subst h1
    refine fs_ex (ℓ1 := [.im (.str (S [])), .un]) (x := ⟨"NoNumber", none⟩) ?_
    simp [dife, dor, bindT, dtv, arg, d2, bindE, dv, dk, peek, fEq, dyes, dthrow, lit, S_beq]
  have e1 : (l == []) = false := by simpa using h1
  by_cases h2 : 60 < l.length
  · have e2 : decide ((60 : Int) < (l.length : Int)) = true := by rw [decide_eq_true_eq]; omega
    rw [if_neg h1, if_pos h2]
    refine fs_ex (ℓ1 := [.im (.str (S l)), .un]) (x := ⟨"NoNumber", none⟩) ?_
    simp [dife, dor, bindT, dtv, arg, d2, bindE, dv, dk, peek, fEq, dyes, dthrow, lit, S_beq, e1, dbi, dcons, dnil, peeks, fLen, S_len, hz, fGt, e2]
  have e2 : decide ((60 : Int) < (l.length : Int)) = false := by rw [decide_eq_false_iff_not]; omega
  obtain ⟨y, e⟩ := for_figs (dthrow "NoNumber") (.ex ⟨"NoNumber", none⟩) (fun _ => rfl) ⟨by simp, by simp, by simp⟩ 0 (.str (S l)) l .un
  rw [if_neg h1, if_neg h2]
  refine fs_nx (ℓ1 := [.im (.str (S l)), .un]) ?_ ?_
  · simp [dife, dor, bindT, dtv, arg, d2, bindE, dv, dk, peek, fEq, dyes, lit, S_beq, e1, dbi, dcons, dnil, peeks, fLen, S_len, hz, fGt, e2, dskip]
  have es : dit (dv 0) [.im (.str (S l)), .un] = some (.ok (l.map fun c => .str (S [c])) [.im (.str (S l)), .un]) := by simp [dit, arg, dv, keepW, items, S_signs]
  cases hd : l.all dg with
  | false =>
    rw [hd] at e
    rw [if_pos rfl]
    exact fs_ex (ℓ1 := [.im (.str (S l)), y]) (dfor_of es e)
  | true =>
    rw [hd] at e
    refine fs_nx (ℓ1 := [.im (.str (S l)), y]) (dfor_of es e) ?_
    rw [if_neg (by simp)]
    obtain ⟨c, c0, c1⟩ := head_zero h1
    have hint := int_figs hd h1 (by omega)
    have fin2 : fin (dret (dbi fInt (dcons (dv 0) dnil)) [.im (.str (S l)), y]) = okd (.int (PySem.NumText.digitsVal l)) := by
      have h640 : l.length ≤ 640 := by omega
      simp [fin, dret, dbi, dcons, dnil, arg, dv, peeks, peek, fInt, S_len, h640, hint]
    have hne : (S l == Str.ofString "0") = (l == [48]) := by rw [lit0, S_beq]
    by_cases hc : c = 48
    · subst hc
      by_cases hl1 : 1 < l.length
      · have : (l == [48]) = false := by
          rw [beq_eq_false_iff_ne]; intro z; rw [z] at hl1; simp at hl1
        rw [if_pos ⟨hl1, c1⟩]
        refine fs_ex (ℓ1 := [.im (.str (S l)), y]) (x := ⟨"NoNumber", none⟩) ?_
        simp [dife, dand, bindT, dtv, arg, d2, bindE, dv, dk, peek, fEq, fNe, dyes, dthrow, fIx, S_len, hz, tl_S, c0, lit0, mk1, S_beq, this]
      · have : l = [48] := by
          cases l with
          | nil => exact absurd rfl h1
          | cons d r =>
            cases r with
            | nil => simpa using c1
            | cons _ _ => simp at hl1
        rw [if_neg (fun z => hl1 z.1)]
        refine fs_nx (ℓ1 := [.im (.str (S l)), y]) ?_ fin2
        subst this
        simp [dife, dand, bindT, dtv, arg, d2, bindE, dv, dk, peek, fEq, fNe, dyes, dskip, fIx, S_len, tl_S, c0, lit0, mk1, S_beq]
    · have ec : ([c] == [48]) = false := by rw [beq_eq_false_iff_ne]; intro z; simp at z; exact hc z
      rw [if_neg (fun z => hc (by rw [c1] at z; simpa using z.2))]
      refine fs_nx (ℓ1 := [.im (.str (S l)), y]) ?_ fin2
      simp [dife, dand, bindT, dtv, arg, d2, bindE, dv, dk, peek, fEq, dyes, dskip, fIx, S_len, hz, tl_S, c0, lit0, mk1, S_beq, ec]
end K10

namespace K10
open PySem PySem.Spec PyProof.Rows L2 DL
/-! ### numbers read -/
def tops (l : List Nat) : Option Int := if l.head? = some 45 then (match figs l.tail with
    | some n => if n = 0 then none else some (-(n : Int))
    | none => none) else (figs l).map fun n => (n : Int)
theorem cut1 (l : List Nat) : cutS (S l) none (some 1) = S (l.take 1) := by
  rw [S_cut]
  congr 1
  cases l <;> simp [HT.sIx]
theorem cutFrom1 (l : List Nat) : cutS (S l) (some 1) none = S l.tail := by
  rw [S_cut]
  congr 1
  cases l with
  | nil => simp [HT.sIx]
  | cons c r => simp [HT.sIx]
theorem cutFrom0 (l : List Nat) : cutS (S l) (some 0) none = S l := by
  rw [S_cut]
  congr 1
  simp [HT.sIx]
theorem litM : Str.ofString "-" = S [45] := by rw [lit]; rfl
theorem litSl : Str.ofString "/" = S [47] := by rw [lit]; rfl
theorem litE : Str.ofString "" = S [] := by rw [lit]; rfl
theorem take1_head (l : List Nat) : (l.take 1 == [45]) = decide (l.head? = some 45) := by
  cases l with
  | nil => simp
  | cons c r => rw [Bool.eq_iff_iff]; simp
theorem tail_len {l : List Nat} (hl : l.length ≤ 1000) : l.tail.length ≤ 1000 := by rw [List.length_tail]; omega
theorem topof_ok (l : List Nat) (hl : l.length ≤ 1000) : m_topof [.str (S l)] = (match tops l with
    | some i => okd (.int i)
    | none => some (.ex ⟨"NoNumber", none⟩)) := by
  have hz : (l.length ≤ 16777216) = True := by simp; omega
  unfold m_topof runD t_topof
  show fin (dseq _ _ [.im (.str (S l)), .un]) = _
  unfold tops
  have c1 := countof_ok l hl
  have c2 := countof_ok l.tail (tail_len hl)
  by_cases h : l.head? = some 45
  · rw [if_pos h]
    refine fs_nx (ℓ1 := [.im (.str (S l)), .un]) ?_ ?_
    · simp [dife, dtv, arg, d2, bindE, dv, dk, peek, fNe, dsl, dpt, fSl, S_len, hz, cut1, litM, S_beq, take1_head, h, dskip]
    · cases hf : figs l.tail with
      | none =>
        rw [hf] at c2
        refine fs_ex (ℓ1 := [.im (.str (S l)), .un]) ?_
        simp [dset, dcall, dcons, dnil, arg, bindE, dv, dk, peek, dsl, dpt, fSl, S_len, hz, cutFrom1, peeks, c2, keepWs, keepW]
      | some n =>
        rw [hf] at c2
        refine fs_nx (ℓ1 := [.im (.str (S l)), .im (.int n)]) ?_ ?_
        · simp [dset, dcall, dcons, dnil, arg, bindE, dv, dk, peek, dsl, dpt, fSl, S_len, hz, cutFrom1, peeks, c2, isSc, putW]
        · by_cases hn : n = 0
          · subst hn
            simp only [if_true]
            refine fs_ex (ℓ1 := [.im (.str (S l)), .im (.int 0)]) ?_
            simp [dife, dtv, arg, d2, bindE, dv, dk, peek, fEq, shp_int, eqv_int, dthrow]
          · simp only [if_neg hn]
            have hb : ((n : Int) == 0) = false := by rw [beq_eq_false_iff_ne]; omega
            refine fs_nx (ℓ1 := [.im (.str (S l)), .im (.int n)]) ?_ ?_
            · simp [dife, dtv, arg, d2, bindE, dv, dk, peek, fEq, shp_int, eqv_int, hb, dskip]
            · simp [fin, dret, d2, bindE, arg, dk, dv, peek, fSub]
  · rw [if_neg h]
    cases hf : figs l with
    | none =>
      rw [hf] at c1
      refine fs_ex (ℓ1 := [.im (.str (S l)), .un]) ?_
      simp [dife, dtv, arg, d2, bindE, dv, dk, peek, fNe, dsl, dpt, fSl, S_len, hz, cut1, litM, S_beq, take1_head, h, dret, dcall, dcons, dnil, peeks, c1, keepWs, keepW]
    | some n =>
      rw [hf] at c1
      refine fs_rt (ℓ1 := [.im (.str (S l)), .un]) ?_
      simp [dife, dtv, arg, d2, bindE, dv, dk, peek, fNe, dsl, dpt, fSl, S_len, hz, cut1, litM, S_beq, take1_head, h, dret, dcall, dcons, dnil, peeks, c1, isSc]
/-- ahead of the stroke, behind it -/
def fore (l : List Nat) : List Nat := l.takeWhile (· != 47)
def aft (l : List Nat) : Option (List Nat) := match l.dropWhile (· != 47) with
  | [] => none
  | _ :: r => some r
theorem fore_free (l : List Nat) : 47 ∉ fore l := fun h => by
  have := List.all_takeWhile (p := (· != 47)) (l := l)
  have := List.all_eq_true.mp this 47 h
  simp at this
theorem part_ok (l : List Nat) : Txt.partition (S l) (S [47]) = (match aft l with
    | none => (S (fore l), S [], S [])
    | some r => (S (fore l), S [47], S r)) := by
  have key : l.takeWhile (· != 47) ++ l.dropWhile (· != 47) = l := List.takeWhile_append_dropWhile
  cases h : l.dropWhile (· != 47) with
  | nil =>
    have ha : aft l = none := by unfold aft; rw [h]
    have hf : fore l = l := by unfold fore; rw [h, List.append_nil] at key; exact key
    rw [ha, hf]
    have := TL.partition_none (y := S [47]) (s := 47) (S := []) (tl_S [47]) (a := S l) (by rw [show TL.tl (S l) = l from tl_S l]; rw [← hf]; exact fore_free l)
    rw [this]; rfl
  | cons c r =>
    have ha : aft l = some r := by unfold aft; rw [h]
    have hc : c = 47 := by
      have := List.head_dropWhile_not (· != 47) (l := l) (by rw [h]; simp)
      simpa [h] using this
    subst hc
    rw [ha]
    have e : S l = S (fore l) ++ S [47] ++ S r := by
      rw [S_app, S_app]; congr 1; unfold fore; rw [h] at key; simpa using key.symm
    rw [e]
    exact TL.partition_app (y := S [47]) (s := 47) (S := []) (tl_S [47]) (by rw [show TL.tl (S (fore l)) = fore l from tl_S _]; exact fore_free l)
theorem fore_len {l : List Nat} (hl : l.length ≤ 1000) : (fore l).length ≤ 1000 := by
  have : (fore l).length ≤ l.length := by unfold fore; exact (List.takeWhile_prefix _).length_le
  omega
theorem aft_len {l r : List Nat} (hl : l.length ≤ 1000) (h : aft l = some r) : r.length ≤ 1000 := by
  have h1 : (l.dropWhile (· != 47)).length ≤ l.length := by
    have := congrArg List.length (List.takeWhile_append_dropWhile (p := (· != 47)) (l := l))
    rw [List.length_append] at this; omega
  unfold aft at h
  split at h
  · cases h
  · rename_i e
    cases h
    rw [e] at h1; simp at h1; omega
/-- what read_number tells -/
def rdN (l : List Nat) : Option (Int × Nat) := match tops (fore l) with
  | none => none
  | some t => match aft l with
    | none => some (t, 1)
    | some r => match figs r with
      | none => none
      | some n => if n < 2 ∨ Int.gcd t n ≠ 1 then none else some (t, n)
theorem readnumber_ok (l : List Nat) (hl : l.length ≤ 1000) : m_readnumber [.str (S l)] = (match rdN l with
    | some (t, n) => okd (.tuple [.int t, .int n])
    | none => some (.ex ⟨"NoNumber", none⟩)) := by
  have hz : (l.length ≤ 16777216) = True := by simp; omega
  unfold m_readnumber runD t_readnumber
  show fin (dseq _ _ [.im (.str (S l)), .un, .un, .un, .un, .un]) = _
  have c1 := topof_ok (fore l) (fore_len hl)
  refine fs_nx (ℓ1 := [.im (.str (S l)), .un, .un, .un, .un, .un]) ?_ ?_
  · simp [dife, dnot, bindT, dtv, disi, d1, arg, bindE, dv, peek, isiB, dyes, dskip]
  have hp := part_ok l
  unfold rdN
  cases ha : aft l with
  | none =>
    rw [ha] at hp
    refine fs_nx (ℓ1 := [.im (.str (S l)), .un, .un, .im (.str (S (fore l))), .im (.str (S [])), .im (.str (S []))]) ?_ ?_
    · simp [dasg, arg, dm1, bindE, dv, dk, peek, litSl, fPart, S_len, hz, hp, keepW, bindP, bindPs]
    · cases ht : tops (fore l) with
      | none =>
        rw [ht] at c1
        refine fs_ex (ℓ1 := [.im (.str (S l)), .un, .un, .im (.str (S (fore l))), .im (.str (S [])), .im (.str (S []))]) ?_
        simp [dset, dcall, dcons, dnil, arg, dv, peeks, peek, c1, keepWs, keepW]
      | some t =>
        rw [ht] at c1
        refine fs_nx (ℓ1 := [.im (.str (S l)), .im (.int t), .un, .im (.str (S (fore l))), .im (.str (S [])), .im (.str (S []))]) ?_ ?_
        · simp [dset, dcall, dcons, dnil, arg, dv, peeks, peek, c1, isSc, putW]
        · refine fs_rt (ℓ1 := [.im (.str (S l)), .im (.int t), .un, .im (.str (S (fore l))), .im (.str (S [])), .im (.str (S []))]) ?_
          simp [dife, dtv, arg, d2, bindE, dv, dk, peek, fEq, litE, S_beq, dret, dtup, dcons, dnil, keepAll, peeks, keepWs, keepW]
  | some r =>
    rw [ha] at hp
    have c2 := countof_ok r (aft_len hl ha)
    refine fs_nx (ℓ1 := [.im (.str (S l)), .un, .un, .im (.str (S (fore l))), .im (.str (S [47])), .im (.str (S r))]) ?_ ?_
    · simp [dasg, arg, dm1, bindE, dv, dk, peek, litSl, fPart, S_len, hz, hp, keepW, bindP, bindPs]
    · cases ht : tops (fore l) with
      | none =>
        rw [ht] at c1
        refine fs_ex (ℓ1 := [.im (.str (S l)), .un, .un, .im (.str (S (fore l))), .im (.str (S [47])), .im (.str (S r))]) ?_
        simp [dset, dcall, dcons, dnil, arg, dv, peeks, peek, c1, keepWs, keepW]
      | some t =>
        rw [ht] at c1
        refine fs_nx (ℓ1 := [.im (.str (S l)), .im (.int t), .un, .im (.str (S (fore l))), .im (.str (S [47])), .im (.str (S r))]) ?_ ?_
        · simp [dset, dcall, dcons, dnil, arg, dv, peeks, peek, c1, isSc, putW]
        refine fs_nx (ℓ1 := [.im (.str (S l)), .im (.int t), .un, .im (.str (S (fore l))), .im (.str (S [47])), .im (.str (S r))]) ?_ ?_
        · simp [dife, dtv, arg, d2, bindE, dv, dk, peek, fEq, litE, S_beq, dskip]
        cases hf : figs r with
        | none =>
          rw [hf] at c2
          simp only [hf]
          refine fs_ex (ℓ1 := [.im (.str (S l)), .im (.int t), .un, .im (.str (S (fore l))), .im (.str (S [47])), .im (.str (S r))]) ?_
          simp [dset, dcall, dcons, dnil, arg, dv, peeks, peek, c2, keepWs, keepW]
        | some n =>
          rw [hf] at c2
          simp only [hf]
          refine fs_nx (ℓ1 := [.im (.str (S l)), .im (.int t), .im (.int n), .im (.str (S (fore l))), .im (.str (S [47])), .im (.str (S r))]) ?_ ?_
          · simp [dset, dcall, dcons, dnil, arg, dv, peeks, peek, c2, isSc, putW]
          have dv1 := divisor_ok t n (by omega)
          by_cases hn : n < 2
          · have e1 : decide ((n : Int) < 2) = true := by rw [decide_eq_true_eq]; omega
            rw [if_pos (.inl hn)]
            refine fs_ex (ℓ1 := [.im (.str (S l)), .im (.int t), .im (.int n), .im (.str (S (fore l))), .im (.str (S [47])), .im (.str (S r))]) ?_
            simp [dife, dor, bindT, dtv, arg, d2, bindE, dv, dk, peek, fLt, e1, dyes, dthrow]
          · have e1 : decide ((n : Int) < 2) = false := by rw [decide_eq_false_iff_not]; omega
            by_cases hg : Int.gcd t n = 1
            · rw [if_neg (fun z => z.elim hn (fun h => h hg))]
              have e2 : (((Int.gcd t n : Nat) : Int) == 1) = true := by rw [hg]; rfl
              refine fs_nx (ℓ1 := [.im (.str (S l)), .im (.int t), .im (.int n), .im (.str (S (fore l))), .im (.str (S [47])), .im (.str (S r))]) ?_ ?_
              · simp [dife, dor, bindT, dtv, arg, d2, bindE, dv, dk, peek, fLt, e1, dyes, dskip, dcall, dcons, dnil, peeks, dv1, isSc, fNe, shp_int, eqv_int, e2]
              · simp [fin, dret, dtup, dcons, dnil, arg, dv, keepAll, peeks, peek, keepWs, keepW]
            · rw [if_pos (.inr hg)]
              have e2 : (((Int.gcd t n : Nat) : Int) == 1) = false := by rw [beq_eq_false_iff_ne]; omega
              refine fs_ex (ℓ1 := [.im (.str (S l)), .im (.int t), .im (.int n), .im (.str (S (fore l))), .im (.str (S [47])), .im (.str (S r))]) ?_
              simp [dife, dor, bindT, dtv, arg, d2, bindE, dv, dk, peek, fLt, e1, dyes, dthrow, dcall, dcons, dnil, peeks, dv1, isSc, fNe, shp_int, eqv_int, e2]
end K10

namespace K10
open PySem PySem.Spec PyProof.Rows L2 DL
/-! ### the law's own number -/
def figI (l : List Nat) : Int := match figs l with
  | some n => n
  | none => -1
theorem lfigures_ok (l : List Nat) (hl : l.length ≤ 1000) : m_Lfigures [.str (S l)] = okd (.int (figI l)) := by
  have hz : (l.length ≤ 16777216) = True := by simp; omega
  unfold m_Lfigures runD t_Lfigures figI figs
  show fin (dseq _ _ [.im (.str (S l)), .un]) = _
  by_cases h1 : l = []
  · subst h1
    refine fs_rt (ℓ1 := [.im (.str (S [])), .un]) ?_
    simp [dife, dor, bindT, dtv, arg, d2, bindE, dv, dk, peek, fEq, dyes, litE, S_beq, dret, d1, fNeg]
  have e1 : (l == []) = false := by simpa using h1
  rw [if_neg h1]
  by_cases h2 : 60 < l.length
  · have e2 : decide ((60 : Int) < (l.length : Int)) = true := by rw [decide_eq_true_eq]; omega
    rw [if_pos h2]
    refine fs_rt (ℓ1 := [.im (.str (S l)), .un]) ?_
    simp [dife, dor, bindT, dtv, arg, d2, bindE, dv, dk, peek, fEq, dyes, litE, S_beq, e1, dbi, dcons, dnil, peeks, fLen, S_len, hz, fGt, e2, dret, d1, fNeg]
  have e2 : decide ((60 : Int) < (l.length : Int)) = false := by rw [decide_eq_false_iff_not]; omega
  rw [if_neg h2]
  obtain ⟨c, c0, c1⟩ := head_zero h1
  obtain ⟨y, e⟩ := for_figs (dret (d1 fNeg (dk (.int 1)))) (.rt (.d (.int (-1)))) (fun _ => by simp [dret, d1, bindE, arg, dk, peek, fNeg]) ⟨by simp, by simp, by simp⟩ 0 (.str (S l)) l .un
  have es : dit (dv 0) [.im (.str (S l)), .un] = some (.ok (l.map fun c => .str (S [c])) [.im (.str (S l)), .un]) := by simp [dit, arg, dv, keepW, items, S_signs]
  have eh : ([c] == [48]) = decide (c = 48) := by rw [Bool.eq_iff_iff]; simp
  by_cases h3 : 1 < l.length ∧ l.head? = some 48
  · obtain ⟨h3, h4⟩ := h3
    have e3 : decide ((1 : Int) < (l.length : Int)) = true := by rw [decide_eq_true_eq]; omega
    obtain rfl : c = 48 := by rw [c1] at h4; simpa using h4
    have : (match (if l.all dg = false then none else if 1 < l.length ∧ l.head? = some 48 then none else some (PySem.NumText.digitsVal l)) with
        | some n => (n : Int) | none => -1) = -1 := by
      by_cases hd : l.all dg = false
      · rw [if_pos hd]
      · rw [if_neg hd, if_pos ⟨h3, h4⟩]
    rw [this]
    refine fs_rt (ℓ1 := [.im (.str (S l)), .un]) ?_
    simp [dife, dor, dand, bindT, dtv, arg, d2, bindE, dv, dk, peek, fEq, dyes, litE, S_beq, e1, dbi, dcons, dnil, peeks, fLen, S_len, hz, fGt, e2, e3, dret, d1, fNeg, fIx, tl_S, c0, lit0, mk1]
  · have ef : dand (dtv (d2 fGt (dbi fLen (dcons (dv 0) dnil)) (dk (.int 1)))) (dtv (d2 fEq (d2 fIx (dv 0) (dk (.int 0))) (dk (.str (Str.ofString "0"))))) [.im (.str (S l)), .un] = some (.ok false [.im (.str (S l)), .un]) := by
      by_cases h4 : 1 < l.length
      · have e3 : decide ((1 : Int) < (l.length : Int)) = true := by rw [decide_eq_true_eq]; omega
        have h5 : c ≠ 48 := fun z => h3 ⟨h4, by rw [c1, z]⟩
        simp [dand, bindT, dtv, arg, d2, bindE, dv, dk, peek, fEq, dyes, dbi, dcons, dnil, peeks, fLen, S_len, hz, fGt, e3, fIx, tl_S, c0, lit0, mk1, S_beq, h5]
      · have e3 : decide ((1 : Int) < (l.length : Int)) = false := by rw [decide_eq_false_iff_not]; omega
        simp [dand, bindT, dtv, arg, d2, bindE, dv, dk, peek, dyes, dbi, dcons, dnil, peeks, fLen, S_len, hz, fGt, e3]
    refine fs_nx (ℓ1 := [.im (.str (S l)), .un]) ?_ ?_
    · have g1 : dtv (d2 fEq (dv 0) (dk (.str (Str.ofString "")))) [.im (.str (S l)), .un] = some (.ok false [.im (.str (S l)), .un]) := by
        simp [dtv, arg, d2, bindE, dv, dk, peek, fEq, litE, S_beq, e1]
      have g2 : dtv (d2 fGt (dbi fLen (dcons (dv 0) dnil)) (dk (.int 60))) [.im (.str (S l)), .un] = some (.ok false [.im (.str (S l)), .un]) := by
        simp [dtv, arg, d2, bindE, dv, dk, peek, dbi, dcons, dnil, peeks, fLen, S_len, hz, fGt, e2]
      refine dife_f (ℓ1 := [.im (.str (S l)), .un]) ?_ rfl
      unfold dor bindT
      rw [g1]
      simp only [Bool.false_eq_true, if_false]
      rw [g2]
      simp only [Bool.false_eq_true, if_false]
      exact ef
    cases hd : l.all dg with
    | false =>
      rw [hd] at e
      rw [if_pos rfl]
      exact fs_rt (ℓ1 := [.im (.str (S l)), y]) (dfor_of es e)
    | true =>
      rw [hd] at e
      rw [if_neg (by simp), if_neg h3]
      refine fs_nx (ℓ1 := [.im (.str (S l)), y]) (dfor_of es e) ?_
      have hint := int_figs hd h1 (by omega)
      have h640 : l.length ≤ 640 := by omega
      simp [fin, dret, dbi, dcons, dnil, arg, dv, peeks, peek, fInt, S_len, h640, hint]
/-- a told number's text -/
def toldN (l : List Nat) : Option (Int × Nat) := match rdN l with
  | some (t, n) => if t.natAbs < 1000000000000000000 ∧ n ≤ 60 then some (t, n) else none
  | none => none
def numD : Option (Int × Nat) → D
  | some (t, n) => .tuple [.int t, .int n]
  | none => .none
def lessB (l : List Nat) : Bool := decide ((fore l).head? = some 45)
theorem gcd1 (t : Int) : Int.gcd t 1 = 1 := by simp
theorem told_law (l : List Nat) (t n : Int) (et : t = figI (if lessB l = true then (fore l).tail else fore l)) (en : n = (match aft l with | none => 1 | some r => figI r)) :
    numD (toldN l) = if (t < 0 ∨ (lessB l = true ∧ t = 0)) ∨ (n < 1 ∨ (aft l ≠ none ∧ n < 2)) then .none else if 1000000000000000000 ≤ t ∨ 60 < n ∨ Int.gcd t n ≠ 1 then .none else .tuple [.int ((1 - 2 * (if lessB l = true then 1 else 0)) * t), .int n] := by
  -- the top with its sign
  have top : tops (fore l) = if t < 0 ∨ (lessB l = true ∧ t = 0) then none else some ((1 - 2 * (if lessB l = true then 1 else 0)) * t) := by
    unfold tops
    by_cases hb : (fore l).head? = some 45
    · have hl : lessB l = true := by unfold lessB; exact decide_eq_true hb
      rw [if_pos hb]
      rw [hl, if_pos rfl] at et
      simp only [hl, true_and, if_true]
      unfold figI at et
      cases hf : figs (fore l).tail with
      | none => rw [hf] at et; simp only at et; rw [if_pos (by omega)]
      | some k =>
        rw [hf] at et
        simp only at et ⊢
        by_cases hk : k = 0
        · rw [if_pos hk, if_pos (by omega)]
        · rw [if_neg hk, if_neg (by rw [et]; omega)]
          exact congrArg some (by rw [et, show (1 - 2 * 1 : Int) = -1 from rfl]; omega)
    · have hl : lessB l = false := by unfold lessB; exact decide_eq_false hb
      rw [if_neg hb]
      rw [hl, if_neg (by simp)] at et
      simp only [hl, Bool.false_eq_true, false_and, or_false, if_false]
      unfold figI at et
      cases hf : figs (fore l) with
      | none => rw [hf] at et; simp only at et; rw [if_pos (by omega)]; rfl
      | some k =>
        rw [hf] at et
        simp only at et
        rw [if_neg (by omega)]
        simp only [Option.map]
        exact congrArg some (by rw [et]; omega)
  have abs : ∀ s : Int, s = 1 ∨ s = -1 → (s * t).natAbs = t.natAbs := fun s hs => by
    rcases hs with rfl | rfl <;> omega
  have gg : ∀ s : Int, s = 1 ∨ s = -1 → Int.gcd (s * t) n = Int.gcd t n := fun s hs => by
    rcases hs with rfl | rfl
    · rw [Int.one_mul]
    · rw [Int.neg_mul, Int.one_mul, Int.neg_gcd]
  have sg : (1 - 2 * (if lessB l = true then 1 else 0) : Int) = 1 ∨ (1 - 2 * (if lessB l = true then 1 else 0) : Int) = -1 := by
    cases lessB l <;> simp
  generalize hs : (1 - 2 * (if lessB l = true then 1 else 0) : Int) = s at *
  unfold toldN rdN
  rw [top]
  by_cases h1 : t < 0 ∨ (lessB l = true ∧ t = 0)
  · rw [if_pos h1, if_pos (.inl h1)]; rfl
  rw [if_neg h1]
  have t0 : 0 ≤ t := by
    rcases Int.lt_or_le t 0 with z | z
    · exact absurd (.inl z) h1
    · exact z
  cases ha : aft l with
  | none =>
    rw [ha] at en
    simp only at en
    subst en
    rw [if_neg (fun z => z.elim h1 (fun z => z.elim (by omega) (fun z => z.1 rfl)))]
    simp only
    have g1 := gcd1 t
    by_cases hc : 1000000000000000000 ≤ t
    · rw [if_neg (by rw [abs s sg]; omega), if_pos (.inl hc)]; rfl
    · rw [if_pos ⟨by rw [abs s sg]; omega, by omega⟩, if_neg (fun z => z.elim hc (fun z => z.elim (by omega) (fun z => z g1)))]; rfl
  | some r =>
    rw [ha] at en
    simp only at en
    unfold figI at en
    cases hf : figs r with
    | none =>
      simp only [hf] at en ⊢
      rw [if_pos (.inr (.inl (by omega)))]; rfl
    | some m =>
      simp only [hf] at en ⊢
      subst en
      have gs := gg s sg
      by_cases hm : m < 2
      · have eL : (if m < 2 ∨ Int.gcd (s * t) (m : Int) ≠ 1 then none else some (s * t, m)) = none := if_pos (.inl hm)
        have eR : ((t < 0 ∨ (lessB l = true ∧ t = 0)) ∨ ((m : Int) < 1 ∨ (some r ≠ none ∧ (m : Int) < 2))) := .inr (.inr ⟨by simp, by omega⟩)
        simp only [eL, if_pos eR]; rfl
      · have eR : ¬ ((t < 0 ∨ (lessB l = true ∧ t = 0)) ∨ ((m : Int) < 1 ∨ (some r ≠ none ∧ (m : Int) < 2))) := fun z => z.elim h1 (fun z => z.elim (by omega) (fun z => hm (by have := z.2; omega)))
        by_cases hg : Int.gcd t (m : Int) = 1
        · have eL : (if m < 2 ∨ Int.gcd (s * t) (m : Int) ≠ 1 then none else some (s * t, m)) = some (s * t, m) := if_neg (fun z => z.elim hm (fun z => z (gs.trans hg)))
          simp only [eL, if_neg eR]
          by_cases hc : t.natAbs < 1000000000000000000 ∧ m ≤ 60
          · have e2 : ¬ (1000000000000000000 ≤ t ∨ 60 < (m : Int) ∨ Int.gcd t (m : Int) ≠ 1) := fun z => z.elim (by omega) (fun z => z.elim (by omega) (fun z => z hg))
            rw [if_pos ⟨by rw [abs s sg]; exact hc.1, hc.2⟩, if_neg e2]; rfl
          · have e2 : 1000000000000000000 ≤ t ∨ 60 < (m : Int) ∨ Int.gcd t (m : Int) ≠ 1 := by
              rcases Int.lt_or_le t 1000000000000000000 with z | z
              · exact .inr (.inl (by omega))
              · exact .inl z
            rw [if_neg (by rw [abs s sg]; exact hc), if_pos e2]; rfl
        · have eL : (if m < 2 ∨ Int.gcd (s * t) (m : Int) ≠ 1 then none else some (s * t, m)) = none := if_pos (.inr (fun z => hg (gs.symm.trans z)))
          have e2 : 1000000000000000000 ≤ t ∨ 60 < (m : Int) ∨ Int.gcd t (m : Int) ≠ 1 := .inr (.inr hg)
          simp only [eL, if_neg eR, if_pos e2]; rfl
/-- the law's reading by parts -/
theorem lnumberby_ok (l : List Nat) (hl : l.length ≤ 1000) : m_Lnumberby [.str (S l)] = okd (numD (toldN l)) := by
  have hz : (l.length ≤ 16777216) = True := by simp; omega
  have hzf : ((fore l).length ≤ 16777216) = True := by have := fore_len hl; simp; omega
  unfold m_Lnumberby runD t_Lnumberby
  show fin (dseq _ _ [.im (.str (S l)), .un, .un, .un, .un, .un, .un]) = _
  have hp := part_ok l
  -- the parts
  obtain ⟨st, rs, hst, hpart⟩ : ∃ st rs : List Nat, (aft l = none ∧ st = [] ∧ rs = [] ∨ aft l = some rs ∧ st = [47]) ∧ Txt.partition (S l) (S [47]) = (S (fore l), S st, S rs) := by
    cases ha : aft l with
    | none => rw [ha] at hp; exact ⟨[], [], .inl ⟨rfl, rfl, rfl⟩, hp⟩
    | some r => rw [ha] at hp; exact ⟨[47], r, .inr ⟨rfl, rfl⟩, hp⟩
  refine fs_nx (ℓ1 := [.im (.str (S l)), .un, .un, .un, .im (.str (S (fore l))), .im (.str (S st)), .im (.str (S rs))]) ?_ ?_
  · simp [dasg, arg, dm1, bindE, dv, dk, peek, litSl, fPart, S_len, hz, hpart, keepW, bindP, bindPs]
  refine fs_nx (ℓ1 := [.im (.str (S l)), .im (.bool (lessB l)), .un, .un, .im (.str (S (fore l))), .im (.str (S st)), .im (.str (S rs))]) ?_ ?_
  · simp [dset, arg, d2, bindE, dv, dk, peek, fEq, dsl, dpt, fSl, S_len, hzf, cut1, litM, S_beq, take1_head, putW, lessB]
  -- the top's figures
  have htop : ∃ t : Int, dset 2 (dcall m_Lfigures (dcons (dsl (dv 4) (some (dbi fInt (dcons (dv 1) dnil))) none) dnil)) [.im (.str (S l)), .im (.bool (lessB l)), .un, .un, .im (.str (S (fore l))), .im (.str (S st)), .im (.str (S rs))] =
      some (.nx, [.im (.str (S l)), .im (.bool (lessB l)), .im (.int t), .un, .im (.str (S (fore l))), .im (.str (S st)), .im (.str (S rs))]) ∧ t = figI (if lessB l = true then (fore l).tail else fore l) := by
    cases hb : lessB l with
    | true =>
      have c := lfigures_ok (fore l).tail (tail_len (fore_len hl))
      exact ⟨_, by simp [dset, dcall, dcons, dnil, arg, bindE, dv, dbi, peeks, peek, fInt, dsl, dpt, fSl, S_len, hzf, cutFrom1, c, isSc, putW], rfl⟩
    | false =>
      have c := lfigures_ok (fore l) (fore_len hl)
      exact ⟨_, by simp [dset, dcall, dcons, dnil, arg, bindE, dv, dbi, peeks, peek, fInt, dsl, dpt, fSl, S_len, hzf, cutFrom0, c, isSc, putW], rfl⟩
  obtain ⟨t, ht, et⟩ := htop
  refine fs_nx ht ?_
  refine fs_nx (ℓ1 := [.im (.str (S l)), .im (.bool (lessB l)), .im (.int t), .im (.int 1), .im (.str (S (fore l))), .im (.str (S st)), .im (.str (S rs))]) ?_ ?_
  · simp [dset, dk, putW]
  have hbot : ∃ n : Int, dife (dtv (d2 fNe (dv 5) (dk (.str (Str.ofString ""))))) (dset 3 (dcall m_Lfigures (dcons (dv 6) dnil))) dskip [.im (.str (S l)), .im (.bool (lessB l)), .im (.int t), .im (.int 1), .im (.str (S (fore l))), .im (.str (S st)), .im (.str (S rs))] =
      some (.nx, [.im (.str (S l)), .im (.bool (lessB l)), .im (.int t), .im (.int n), .im (.str (S (fore l))), .im (.str (S st)), .im (.str (S rs))]) ∧ n = (match aft l with | none => 1 | some r => figI r) := by
    rcases hst with ⟨ha, rfl, rfl⟩ | ⟨ha, rfl⟩
    · rw [ha]
      exact ⟨1, by simp [dife, dtv, arg, d2, bindE, dv, dk, peek, fNe, litE, S_beq, dskip], rfl⟩
    · rw [ha]
      have c := lfigures_ok rs (aft_len hl ha)
      exact ⟨_, by simp [dife, dtv, arg, d2, bindE, dv, dk, peek, fNe, litE, S_beq, dset, dcall, dcons, dnil, peeks, c, isSc, putW], rfl⟩
  obtain ⟨n, hn, en⟩ := hbot
  refine fs_nx hn ?_
  have hne : (S st == S []) = decide (aft l = none) := by
    rcases hst with ⟨ha, rfl, rfl⟩ | ⟨ha, rfl⟩
    · rw [ha, S_beq]; rfl
    · rw [ha, S_beq]; rfl
  generalize hℓ : ([.im (.str (S l)), .im (.bool (lessB l)), .im (.int t), .im (.int n), .im (.str (S (fore l))), .im (.str (S st)), .im (.str (S rs))] : LS) = ℓ0
  -- the tests
  have q1 : dtv (d2 fLt (dv 2) (dk (.int 0))) ℓ0 = some (.ok (decide (t < 0)) ℓ0) := by rw [← hℓ]; simp [dtv, arg, d2, bindE, dv, dk, peek, fLt]
  have q2 : dtv (dv 1) ℓ0 = some (.ok (lessB l) ℓ0) := by rw [← hℓ]; simp [dtv, arg, dv]
  have q3 : dtv (d2 fEq (dv 2) (dk (.int 0))) ℓ0 = some (.ok (t == 0) ℓ0) := by rw [← hℓ]; simp [dtv, arg, d2, bindE, dv, dk, peek, fEq, shp_int, eqv_int]
  have q4 : dtv (d2 fLt (dv 3) (dk (.int 1))) ℓ0 = some (.ok (decide (n < 1)) ℓ0) := by rw [← hℓ]; simp [dtv, arg, d2, bindE, dv, dk, peek, fLt]
  have q5 : dtv (d2 fNe (dv 5) (dk (.str (Str.ofString "")))) ℓ0 = some (.ok (!decide (aft l = none)) ℓ0) := by rw [← hℓ]; simp [dtv, arg, d2, bindE, dv, dk, peek, fNe, litE, hne]
  have q6 : dtv (d2 fLt (dv 3) (dk (.int 2))) ℓ0 = some (.ok (decide (n < 2)) ℓ0) := by rw [← hℓ]; simp [dtv, arg, d2, bindE, dv, dk, peek, fLt]
  have q7 : dtv (d2 fGe (dv 2) (d2 fPow (dk (.int 10)) (dk (.int 18)))) ℓ0 = some (.ok (decide (1000000000000000000 ≤ t)) ℓ0) := by rw [← hℓ]; simp [dtv, arg, d2, bindE, dv, dk, peek, fGe, fPow]
  have q8 : dtv (d2 fGt (dv 3) (dk (.int 60))) ℓ0 = some (.ok (decide (60 < n)) ℓ0) := by rw [← hℓ]; simp [dtv, arg, d2, bindE, dv, dk, peek, fGt]
  have q9 : 0 ≤ n → dtv (d2 fNe (dcall m_Ldivisor (dcons (dv 2) (dcons (dv 3) dnil))) (dk (.int 1))) ℓ0 = some (.ok (!(((Int.gcd t n : Nat) : Int) == 1)) ℓ0) := fun h0 => by
    have := ldivisor_ok t n h0
    rw [← hℓ]; simp [dtv, arg, d2, bindE, dv, dk, peek, fNe, shp_int, eqv_int, dcall, dcons, dnil, peeks, this, isSc]
  have r1 : dret (dk .none) ℓ0 = some (.rt (.d .none), ℓ0) := rfl
  have rr : fin (dret (dtup (dcons (d2 fMul (d2 fSub (dk (.int 1)) (d2 fMul (dk (.int 2)) (dbi fInt (dcons (dv 1) dnil)))) (dv 2)) (dcons (dv 3) dnil))) ℓ0) = okd (.tuple [.int ((1 - 2 * (if lessB l = true then 1 else 0)) * t), .int n]) := by
    rw [← hℓ]
    cases hb : lessB l <;> simp [fin, dret, dtup, dcons, dnil, arg, d2, bindE, dk, dv, dbi, peeks, peek, fInt, fMul, fSub, mulOk, keepAll, keepWs, keepW]
  -- the first test as a whole
  have or_of : ∀ {a b : CT} {x y : Bool}, a ℓ0 = some (.ok x ℓ0) → b ℓ0 = some (.ok y ℓ0) → dor a b ℓ0 = some (.ok (x || y) ℓ0) := fun {a b x y} ha hb => by
    unfold dor bindT; rw [ha]; cases x
    · simpa using hb
    · rfl
  have and_of : ∀ {a b : CT} {x y : Bool}, a ℓ0 = some (.ok x ℓ0) → b ℓ0 = some (.ok y ℓ0) → dand a b ℓ0 = some (.ok (x && y) ℓ0) := fun {a b x y} ha hb => by
    unfold dand bindT; rw [ha]; cases x
    · rfl
    · simpa using hb
  have T1 := or_of q1 (or_of (and_of q2 q3) (or_of q4 (and_of q5 q6)))
  have ife : ∀ {q : CT} {x : Bool}, q ℓ0 = some (.ok x ℓ0) → dife q (dret (dk .none)) dskip ℓ0 = if x = true then some (.rt (.d .none), ℓ0) else some (.nx, ℓ0) := fun {q x} h => by
    unfold dife; rw [h]; cases x <;> rfl
  have ife1 := ife T1
  rw [told_law l t n et en]
  have hb1 : (decide (t < 0) || (lessB l && (t == 0) || (decide (n < 1) || (!decide (aft l = none) && decide (n < 2))))) = decide ((t < 0 ∨ (lessB l = true ∧ t = 0)) ∨ (n < 1 ∨ (aft l ≠ none ∧ n < 2))) := by
    rw [Bool.eq_iff_iff]; simp [or_assoc]
  rw [hb1] at ife1
  by_cases c1 : (t < 0 ∨ (lessB l = true ∧ t = 0)) ∨ (n < 1 ∨ (aft l ≠ none ∧ n < 2))
  · rw [if_pos c1]
    rw [if_pos (decide_eq_true c1)] at ife1
    exact fs_rt ife1
  · rw [if_neg c1]
    rw [if_neg (by simpa using c1)] at ife1
    refine fs_nx ife1 ?_
    have n0 : 0 ≤ n := by
      rcases Int.lt_or_le n 1 with z | z
      · exact absurd (.inr (.inl z)) c1
      · omega
    have T2 := or_of q7 (or_of q8 (q9 n0))
    have ife2 := ife T2
    have hb2 : (decide (1000000000000000000 ≤ t) || (decide (60 < n) || !(((Int.gcd t n : Nat) : Int) == 1))) = decide (1000000000000000000 ≤ t ∨ 60 < n ∨ Int.gcd t n ≠ 1) := by
      rw [Bool.eq_iff_iff]; simp; omega
    rw [hb2] at ife2
    by_cases c2 : 1000000000000000000 ≤ t ∨ 60 < n ∨ Int.gcd t n ≠ 1
    · rw [if_pos c2]
      rw [if_pos (decide_eq_true c2)] at ife2
      exact fs_rt ife2
    · rw [if_neg c2]
      rw [if_neg (by simpa using c2)] at ife2
      exact fs_nx ife2 rr
end K10

namespace K10
open PySem PySem.Spec PyProof.Rows L2 DL
/-! ### comprehensions of one name -/
theorem dlc_map {i : Nat} {t : CE} {ℓ : LS} {f : D → D} (hu : ℓ.set i .un = ℓ) : ∀ (ds : List D) (acc : List D), (∀ d ∈ ds, arg t (ℓ.set i (.im d)) = some (.ok (.d (f d)) (ℓ.set i (.im d)))) → acc.length + ds.length ≤ 16777216 →
    dlcL (.nm i) [i] (dyes true) t ds ℓ acc = some (acc ++ ds.map f, ℓ)
  | [], acc, _, _ => by simp [dlcL]
  | d :: ds, acc, h, hz => by
    have h0 := h d List.mem_cons_self
    have ih := dlc_map (f := f) hu ds (acc ++ [f d]) (fun x hx => h x (List.mem_cons_of_mem _ hx)) (by simp at hz ⊢; omega)
    have hz' : acc.length < 16777216 := by simp at hz; omega
    unfold dlcL
    simp only [bindP, dyes, h0, keepW]
    rw [if_pos hz']
    have e : wipeL (ℓ.set i (.im d)) [i] = ℓ := by
      unfold wipeL wipeL
      rw [List.set_set, hu]
    rw [e, ih]
    simp
theorem dlc_ok {src : CI} {i : Nat} {t : CE} {ℓ ℓ0 : LS} {f : D → D} {ds : List D} (hs : src ℓ0 = some (.ok ds ℓ)) (hu : ℓ.set i .un = ℓ) (hi : ∀ d, ℓ[i]? ≠ some (.im d)) (h : ∀ d ∈ ds, arg t (ℓ.set i (.im d)) = some (.ok (.d (f d)) (ℓ.set i (.im d)))) (hz : ds.length ≤ 16777216) :
    dlc src (.nm i) [i] (dyes true) t ℓ0 = some (.ok (.fr (ds.map f)) ℓ) := by
  unfold dlc
  rw [hs]
  simp only
  have hw : wipeL ℓ [i] = ℓ := by unfold wipeL wipeL; exact hu
  rw [hw, dlc_map hu ds [] h (by simpa using hz)]
  simp only [List.nil_append]
  have hr : restL ℓ ℓ [i] = ℓ := by
    unfold restL restL backL
    split
    · rename_i d e; exact absurd e (hi d)
    · exact hu
  rw [hr]
/-! ### words -/
def ltr (c : Nat) : Bool := decide (97 ≤ c) && decide (c ≤ 122)
theorem ltr_mem (c : Nat) : decide (c ∈ (Str.ofString "abcdefghijklmnopqrstuvwxyz").cps.toList) = ltr c := by
  rw [lit, tl_S]
  have : (("abcdefghijklmnopqrstuvwxyz" : String).toList.map Char.toNat) = (List.range 26).map (· + 97) := by decide
  rw [this, Bool.eq_iff_iff, decide_eq_true_eq]
  simp only [ltr, Bool.and_eq_true, decide_eq_true_eq, List.mem_map, List.mem_range]
  exact ⟨fun ⟨a, h1, h2⟩ => by omega, fun h => ⟨c - 97, by omega, by omega⟩⟩
def bOf : D → D
  | .str z => .bool (strIn z (Str.ofString "abcdefghijklmnopqrstuvwxyz"))
  | d => d
theorem allB_map (l : List Nat) (g : Nat → Bool) : DL.allB (l.map fun c => .bool (g c)) = some (l.map g) := by
  induction l with
  | nil => rfl
  | cons c l ih => simp [DL.allB, ih]
theorem bOf_signs (l : List Nat) : (l.map fun c => (.str (S [c]) : D)).map bOf = l.map fun c => .bool (ltr c) := by
  rw [List.map_map]
  refine List.map_congr_left fun c _ => ?_
  show PyData.bool (strIn (S [c]) _) = _
  rw [S_in1, ltr_mem]
theorem all_id (l : List Nat) : (l.map ltr).all id = l.all ltr := by simp [List.all_map]
/-- all([sign in LETTERS for sign in text]) -/
theorem plain_ok {j i : Nat} {l : List Nat} {ℓ : LS} (hl : l.length ≤ 1000) (hj : ℓ[j]? = some (.im (.str (S l)))) (hi : ℓ[i]? = some .un) : dbi fAll (dcons (dlc (dit (dv j)) (.nm i) [i] (dyes true) (d2 fIn (dv i) (dk (.str (Str.ofString "abcdefghijklmnopqrstuvwxyz"))))) dnil) ℓ = some (.ok (.d (.bool (l.all ltr))) ℓ) := by
  have hlt : i < ℓ.length := (List.getElem?_eq_some_iff.mp hi).1
  have hu : ℓ.set i .un = ℓ := by
    apply List.ext_getElem?
    intro k
    by_cases hk : k = i
    · subst hk; rw [List.getElem?_set_self hlt, hi]
    · rw [List.getElem?_set_ne (Ne.symm hk)]
  have es : dit (dv j) ℓ = some (.ok (l.map fun c => .str (S [c])) ℓ) := by simp [dit, arg, dv, hj, keepW, items, S_signs]
  have hx : ∀ d ∈ (l.map fun c => (.str (S [c]) : D)), arg (d2 fIn (dv i) (dk (.str (Str.ofString "abcdefghijklmnopqrstuvwxyz")))) (ℓ.set i (.im d)) = some (.ok (.d (bOf d)) (ℓ.set i (.im d))) := fun d hd => by
    obtain ⟨c, _, rfl⟩ := List.mem_map.mp hd
    simp [arg, d2, bindE, dv, dk, hlt, peek, fIn, inB, bOf]
  have e := dlc_ok (f := bOf) es hu (fun d z => by rw [hi] at z; cases z) hx (by simp; omega)
  rw [bOf_signs] at e
  unfold dbi dcons
  unfold arg
  rw [e]
  simp [dnil, peeks, peek, fAll, allB_map, all_id]
theorem isword_ok (l : List Nat) (hl : l.length ≤ 1000) : m_isword [.str (S l)] = okd (.bool (decide (1 ≤ l.length ∧ l.length ≤ 8) && l.all ltr)) := by
  have hz : (l.length ≤ 16777216) = True := by simp; omega
  unfold m_isword runD t_isword
  show fin (dseq _ _ [.im (.str (S l)), .un]) = _
  have hc : dchain leB leB (dk (.int 1)) (dbi fLen (dcons (dv 0) dnil)) (dk (.int 8)) [.im (.str (S l)), .un] = some (.ok (.d (.bool (decide (1 ≤ l.length ∧ l.length ≤ 8)))) [.im (.str (S l)), .un]) := by
    by_cases h1 : 1 ≤ l.length
    · have e1 : leB 1 (l.length : Int) = true := by unfold leB; rw [decide_eq_true_eq]; omega
      have e2 : leB (l.length : Int) 8 = decide (1 ≤ l.length ∧ l.length ≤ 8) := by unfold leB; rw [decide_eq_decide]; omega
      simp [dchain, bindE, arg, dk, peek, dbi, dcons, dnil, dv, peeks, fLen, S_len, hz, e1, e2]
    · have e1 : leB 1 (l.length : Int) = false := by unfold leB; rw [decide_eq_false_iff_not]; omega
      have e2 : decide (1 ≤ l.length ∧ l.length ≤ 8) = false := by rw [decide_eq_false_iff_not]; omega
      simp [dchain, bindE, arg, dk, peek, dbi, dcons, dnil, dv, peeks, fLen, S_len, hz, e1, e2]
  have q1 : dnot (dtv (disi "str" (dv 0))) [.im (.str (S l)), .un] = some (.ok false [.im (.str (S l)), .un]) := by simp [dnot, bindT, dtv, disi, d1, arg, bindE, dv, peek, isiB, dyes]
  have q2 : dnot (dtv (dchain leB leB (dk (.int 1)) (dbi fLen (dcons (dv 0) dnil)) (dk (.int 8)))) [.im (.str (S l)), .un] = some (.ok (!decide (1 ≤ l.length ∧ l.length ≤ 8)) [.im (.str (S l)), .un]) := by
    unfold dnot bindT dtv arg
    rw [hc]; rfl
  have q3 : dor (dnot (dtv (disi "str" (dv 0)))) (dnot (dtv (dchain leB leB (dk (.int 1)) (dbi fLen (dcons (dv 0) dnil)) (dk (.int 8))))) [.im (.str (S l)), .un] = some (.ok (!decide (1 ≤ l.length ∧ l.length ≤ 8)) [.im (.str (S l)), .un]) := by
    show bindT _ _ _ = _
    unfold bindT
    rw [q1]
    exact q2
  cases hh : decide (1 ≤ l.length ∧ l.length ≤ 8) with
  | false =>
    rw [hh] at q3
    refine fs_rt (ℓ1 := [.im (.str (S l)), .un]) (dife_t q3 ?_)
    simp [dret, dk]
  | true =>
    rw [hh] at q3
    refine fs_nx (ℓ1 := [.im (.str (S l)), .un]) (dife_f q3 rfl) ?_
    have := plain_ok (j := 0) (i := 1) (ℓ := [.im (.str (S l)), .un]) hl rfl rfl
    unfold dret
    rw [this]
    simp [fin]
/-! ### a cell read -/
abbrev noT : Option Rt := some (.ex ⟨"NoTable", some ("row", .none)⟩)
theorem thr_row (ℓ : LS) : dthrowF "NoTable" "row" (dk .none) ℓ = some (.ex ⟨"NoTable", some ("row", .none)⟩, ℓ) := by simp [dthrowF, arg, dk, keepW]
theorem rc_nostr (k : Str) (d : D) (h : isiB "str" d = false) : m_readcell [.str k, d] = noT := by
  unfold m_readcell runD t_readcell
  show fin (dseq _ _ [.im (.str k), .im d, .un]) = _
  refine fs_ex (ℓ1 := [.im (.str k), .im d, .un]) (dife_t (ℓ1 := [.im (.str k), .im d, .un]) ?_ (thr_row _))
  simp [dnot, bindT, dtv, disi, d1, arg, bindE, dv, peek, h, dyes]
theorem rc_start (k z : Str) (r : Option Rt) (h : fin (dseq (dife (dtv (d2 fEq (dv 1) (dk (.str "-")))) (dret (dk .none)) dskip) (dseq (dtry (dset 2 (dcall m_cellby (dcons (dv 0) (dcons (dv 1) dnil)))) isA_NoNumber_NoDay (dthrowF "NoTable" "row" (dk .none))) (dseq (dife (dnot (dtv (dcall m_iscell (dcons (dv 0) (dcons (dv 2) dnil))))) (dthrowF "NoTable" "row" (dk .none)) dskip) (dret (dv 2)))) [.im (.str k), .im (.str z), .un]) = r) : m_readcell [.str k, .str z] = r := by
  unfold m_readcell runD t_readcell
  show fin (dseq _ _ [.im (.str k), .im (.str z), .un]) = _
  refine fs_nx (ℓ1 := [.im (.str k), .im (.str z), .un]) (dife_f (ℓ1 := [.im (.str k), .im (.str z), .un]) ?_ rfl) h
  simp [dnot, bindT, dtv, disi, d1, arg, bindE, dv, peek, isiB, dyes]
theorem rc_dash (k : Str) : m_readcell [.str k, .str (S [45])] = okd .none := by
  refine rc_start k _ _ (fs_rt (ℓ1 := [.im (.str k), .im (.str (S [45])), .un]) (dife_t (ℓ1 := [.im (.str k), .im (.str (S [45])), .un]) ?_ ?_))
  · simp [dtv, d2, arg, bindE, dv, dk, peek, fEq, litM]
  · simp [dret, dk]
theorem rc_ex (k : Str) (l : List Nat) (hl : l ≠ [45]) (x : Str) (hx : isA_NoNumber_NoDay x = some true) (hc : m_cellby [.str k, .str (S l)] = some (.ex ⟨x, none⟩)) : m_readcell [.str k, .str (S l)] = noT := by
  refine rc_start k _ _ (fs_nx (ℓ1 := [.im (.str k), .im (.str (S l)), .un]) (dife_f (ℓ1 := [.im (.str k), .im (.str (S l)), .un]) ?_ rfl) (fs_ex (ℓ1 := [.im (.str k), .im (.str (S l)), .un]) ?_))
  · simp [dtv, d2, arg, bindE, dv, dk, peek, fEq, litM, S_beq, hl]
  · have : dset 2 (dcall m_cellby (dcons (dv 0) (dcons (dv 1) dnil))) [.im (.str k), .im (.str (S l)), .un] = some (.ex ⟨x, none⟩, [.im (.str k), .im (.str (S l)), .un]) := by
      simp [dset, dcall, dcons, dnil, arg, dv, peeks, peek, hc, keepWs, keepW]
    unfold dtry
    rw [this]
    simp only [hx]
    exact thr_row _
theorem rc_ok (k : Str) (l : List Nat) (hl : l ≠ [45]) (d : D) (hd : d ≠ .none) (b : Bool) (hc : m_cellby [.str k, .str (S l)] = okd d) (hi : m_iscell [.str k, d] = okd (.bool b)) : m_readcell [.str k, .str (S l)] = if b = true then okd d else noT := by
  refine rc_start k _ _ (fs_nx (ℓ1 := [.im (.str k), .im (.str (S l)), .un]) (dife_f (ℓ1 := [.im (.str k), .im (.str (S l)), .un]) ?_ rfl) (fs_nx (ℓ1 := [.im (.str k), .im (.str (S l)), .im d]) ?_ ?_))
  · simp [dtv, d2, arg, bindE, dv, dk, peek, fEq, litM, S_beq, hl]
  · have : dset 2 (dcall m_cellby (dcons (dv 0) (dcons (dv 1) dnil))) [.im (.str k), .im (.str (S l)), .un] = some (.nx, [.im (.str k), .im (.str (S l)), .im d]) := by
      cases hs : isSc d <;> simp [dset, dcall, dcons, dnil, arg, dv, peeks, peek, hc, keepWs, keepW, hs, putW]
    unfold dtry
    rw [this]
  · have q : dnot (dtv (dcall m_iscell (dcons (dv 0) (dcons (dv 2) dnil)))) [.im (.str k), .im (.str (S l)), .im d] = some (.ok (!b) [.im (.str k), .im (.str (S l)), .im d]) := by
      simp [dnot, bindT, dtv, dcall, dcons, dnil, arg, dv, peeks, peek, hi, isSc, dyes]
    cases b with
    | true =>
      refine fs_nx (ℓ1 := [.im (.str k), .im (.str (S l)), .im d]) (dife_f q rfl) ?_
      simp [fin, dret, dv]
    | false => exact fs_ex (ℓ1 := [.im (.str k), .im (.str (S l)), .im d]) (dife_t q (thr_row _))
/-! ### the kinds -/
theorem isa_num : isA_NoNumber_NoDay "NoNumber" = some true := by decide
theorem isa_day : isA_NoNumber_NoDay "NoDay" = some true := by decide
theorem litk1 : (Str.ofString "number" == Str.ofString "number") = true := by decide
theorem litk2 : (Str.ofString "word" == Str.ofString "number") = false := by decide
theorem litk3 : (Str.ofString "day" == Str.ofString "number") = false := by decide
theorem litk4 : (Str.ofString "word" == Str.ofString "day") = false := by decide
theorem litk5 : (Str.ofString "day" == Str.ofString "day") = true := by decide
theorem litk6 : (Str.ofString "word" == Str.ofString "word") = true := by decide
theorem litk7 : (Str.ofString "day" == Str.ofString "word") = false := by decide
theorem call_as (m : List D → Option Rt) (ℓ : LS) (i : Nat) (d : D) (h : ℓ[i]? = some (.im d)) (r : Rt) (hr : ∀ es, r ≠ .fr es) (hm : m [d] = some r) : fin (dret (dcall m (dcons (dv i) dnil)) ℓ) = some r := by
  cases r with
  | fr es => exact absurd rfl (hr es)
  | d e => cases hs : isSc e <;> simp [fin, dret, dcall, dcons, dnil, arg, dv, h, peeks, peek, hm, hs, keepWs, keepW]
  | ex x => simp [fin, dret, dcall, dcons, dnil, arg, dv, h, peeks, peek, hm, keepWs, keepW]
theorem cellby_num (d : D) (r : Rt) (hr : ∀ es, r ≠ .fr es) (h : m_readnumber [d] = some r) : m_cellby [.str "number", d] = some r := by
  unfold m_cellby runD t_cellby
  show fin (dseq _ _ [.im (.str "number"), .im d]) = _
  have := call_as m_readnumber [.im (.str "number"), .im d] 1 d rfl r hr h
  have q : dtv (d2 fEq (dv 0) (dk (.str "number"))) [.im (.str "number"), .im d] = some (.ok true [.im (.str "number"), .im d]) := by simp [dtv, d2, arg, bindE, dv, dk, peek, fEq]
  show fin (dseq (dife _ _ _) _ _) = _
  unfold dseq dife
  rw [q]
  simp only [if_true]
  cases e : dret (dcall m_readnumber (dcons (dv 1) dnil)) [.im (.str "number"), .im d] with
  | none => rw [e] at this; cases this
  | some r0 =>
    obtain ⟨f, ℓ⟩ := r0
    rw [e] at this
    cases f with
    | nx =>
      unfold dret at e
      split at e <;> cases e
    | bk => cases this
    | ct => cases this
    | rt w => exact this
    | ex x => exact this
end K10

namespace K10
open PySem PySem.Spec PyProof.Rows L2 DL
theorem fs_ret {q : CT} {X : CE} {u u1 : CS} {ℓ ℓ1 : LS} {r : Rt} (hq : q ℓ = some (.ok true ℓ1)) (h : fin (dret X ℓ1) = some r) : fin (dseq (dife q (dret X) u1) u ℓ) = some r := by
  unfold dseq dife
  rw [hq]
  simp only [if_true]
  cases e : dret X ℓ1 with
  | none => rw [e] at h; cases h
  | some r0 =>
    obtain ⟨f, l⟩ := r0
    rw [e] at h
    cases f with
    | nx =>
      unfold dret at e
      split at e <;> cases e
    | bk => cases h
    | ct => cases h
    | rt w => exact h
    | ex x => exact h
theorem fs_skip {q : CT} {s u : CS} {ℓ ℓ1 : LS} {r : Option Rt} (hq : q ℓ = some (.ok false ℓ1)) (h : fin (u ℓ1) = r) : fin (dseq (dife q s dskip) u ℓ) = r := fs_nx (dife_f hq rfl) h
/-- kind == '..' -/
theorem q_kind (k1 k2 : Str) (d : D) (b : Bool) (h : (k1 == k2) = b) : dtv (d2 fEq (dv 0) (dk (.str k2))) [.im (.str k1), .im d] = some (.ok b [.im (.str k1), .im d]) := by
  simp [dtv, d2, arg, bindE, dv, dk, peek, fEq, h]
theorem cellby_day (d : D) (r : Rt) (hr : ∀ es, r ≠ .fr es) (h : m_readday [d] = some r) : m_cellby [.str "day", d] = some r := by
  unfold m_cellby runD t_cellby
  show fin (dseq _ _ [.im (.str "day"), .im d]) = _
  exact fs_skip (q_kind _ _ d false litk3) (fs_ret (q_kind _ _ d true litk5) (call_as m_readday _ 1 d rfl r hr h))
theorem cellby_word (d : D) : m_cellby [.str "word", d] = okd d := by
  unfold m_cellby runD t_cellby
  show fin (dseq _ _ [.im (.str "word"), .im d]) = _
  refine fs_skip (q_kind _ _ d false litk2) (fs_skip (q_kind _ _ d false litk4) ?_)
  simp [fin, dret, dv]
theorem q_none (k : Str) (d : D) (hd : d ≠ .none) : dtv (d2 fIs (dv 1) (dk .none)) [.im (.str k), .im d] = some (.ok false [.im (.str k), .im d]) := by
  have : isNone d = false := by cases d <;> first | rfl | exact absurd rfl hd
  simp [dtv, d2, arg, bindE, dv, dk, peek, fIs, this]
theorem iscell_num (d : D) (hd : d ≠ .none) (b : Bool) (h : m_istold [d] = okd (.bool b)) : m_iscell [.str "number", d] = okd (.bool b) := by
  unfold m_iscell runD t_iscell
  show fin (dseq _ _ [.im (.str "number"), .im d]) = _
  exact fs_skip (q_none _ d hd) (fs_ret (q_kind _ _ d true litk1) (call_as m_istold _ 1 d rfl _ (fun es z => by cases z) h))
theorem iscell_word (d : D) (hd : d ≠ .none) (b : Bool) (h : m_isword [d] = okd (.bool b)) : m_iscell [.str "word", d] = okd (.bool b) := by
  unfold m_iscell runD t_iscell
  show fin (dseq _ _ [.im (.str "word"), .im d]) = _
  exact fs_skip (q_none _ d hd) (fs_skip (q_kind _ _ d false litk2) (fs_ret (q_kind _ _ d true litk6) (call_as m_isword _ 1 d rfl _ (fun es z => by cases z) h)))
theorem iscell_day (d : D) (hd : d ≠ .none) (b : Bool) (h : m_istoldday [d] = okd (.bool b)) : m_iscell [.str "day", d] = okd (.bool b) := by
  unfold m_iscell runD t_iscell
  show fin (dseq _ _ [.im (.str "day"), .im d]) = _
  exact fs_skip (q_none _ d hd) (fs_skip (q_kind _ _ d false litk3) (fs_skip (q_kind _ _ d false litk7) (call_as m_istoldday _ 1 d rfl _ (fun es z => by cases z) h)))
/-- a refusal, or the cell -/
def outD : Option D → Option Rt
  | some d => okd d
  | none => noT
theorem rdN_good {l : List Nat} {t : Int} {n : Nat} (h : rdN l = some (t, n)) : 0 < n ∧ Int.gcd t n = 1 := by
  unfold rdN at h
  split at h
  · cases h
  · split at h
    · cases h; exact ⟨by omega, gcd1 _⟩
    · split at h
      · cases h
      · split at h
        · cases h
        · rename_i hc
          cases h
          exact ⟨by omega, by
            by_cases g : Int.gcd t n = 1
            · exact g
            · exact absurd (.inr g) hc⟩
def numO (l : List Nat) : Option D := (toldN l).map fun p => .tuple [.int p.1, .int p.2]
theorem rc_number (l : List Nat) (hl : l.length ≤ 1000) (hd : l ≠ [45]) : m_readcell [.str "number", .str (S l)] = outD (numO l) := by
  have h := readnumber_ok l hl
  unfold numO toldN
  cases hr : rdN l with
  | none =>
    rw [hr] at h
    exact rc_ex _ l hd "NoNumber" isa_num (cellby_num _ _ (fun es z => by cases z) h)
  | some p =>
    obtain ⟨t, n⟩ := p
    rw [hr] at h
    obtain ⟨g1, g2⟩ := rdN_good hr
    have ht := istold_pair t n
    have hb : (decide (0 < (n : Int)) && decide (Int.gcd t (n : Int) = 1) && decide (t.natAbs < 1000000000000000000) && decide ((n : Int) ≤ 60)) = decide (t.natAbs < 1000000000000000000 ∧ n ≤ 60) := by
      rw [Bool.eq_iff_iff]; simp [g2]; omega
    rw [hb] at ht
    rw [rc_ok "number" l hd _ (by simp) _ (cellby_num _ _ (fun es z => by cases z) h) (iscell_num _ (by simp) _ ht)]
    by_cases hc : t.natAbs < 1000000000000000000 ∧ n ≤ 60
    · rw [if_pos (decide_eq_true hc)]; simp only [if_pos hc]; rfl
    · rw [if_neg (by simpa using hc)]; simp only [if_neg hc]; rfl
def wordO (l : List Nat) : Option D := if (1 ≤ l.length ∧ l.length ≤ 8) ∧ l.all ltr = true then some (.str (S l)) else none
theorem rc_word (l : List Nat) (hl : l.length ≤ 1000) (hd : l ≠ [45]) : m_readcell [.str "word", .str (S l)] = outD (wordO l) := by
  rw [rc_ok "word" l hd _ (by simp) _ (cellby_word _) (iscell_word _ (by simp) _ (isword_ok l hl))]
  unfold wordO
  by_cases hc : (1 ≤ l.length ∧ l.length ≤ 8) ∧ l.all ltr = true
  · rw [if_pos (by simpa using hc), if_pos hc]; rfl
  · rw [if_neg (by simpa using hc), if_neg hc]; rfl
/-! ### the law's reader of a cell -/
def dayO0 (l : List Nat) : D → Prop := fun d => m_Ldayby [.str (S l)] = okd d
def optD : Option D → D
  | some d => d
  | none => .none
theorem numD_opt (l : List Nat) : numD (toldN l) = optD (numO l) := by
  unfold numO numD optD
  cases toldN l with
  | none => rfl
  | some p => rfl
theorem q_kI (i j : Int) (d x y : L) (b : Bool) (h : (i == j) = b) : dtv (d2 fEq (dv 0) (dk (.int j))) [.im (.int i), d, x, y] = some (.ok b [.im (.int i), d, x, y]) := by
  simp [dtv, d2, arg, bindE, dv, dk, peek, fEq, shp_int, eqv_int, h]
theorem lcellby_num (l : List Nat) (hl : l.length ≤ 1000) : m_Lcellby [.int 0, .str (S l)] = okd (optD (numO l)) := by
  unfold m_Lcellby runD t_Lcellby
  show fin (dseq _ _ [.im (.int 0), .im (.str (S l)), .un, .un]) = _
  rw [← numD_opt]
  exact fs_ret (q_kI 0 0 _ _ _ true rfl) (call_as m_Lnumberby _ 1 _ rfl _ (fun es z => by cases z) (lnumberby_ok l hl))
theorem lcellby_day (l : List Nat) (d : D) (h : m_Ldayby [.str (S l)] = okd d) : m_Lcellby [.int 2, .str (S l)] = okd d := by
  unfold m_Lcellby runD t_Lcellby
  show fin (dseq _ _ [.im (.int 2), .im (.str (S l)), .un, .un]) = _
  exact fs_skip (q_kI 2 0 _ _ _ false rfl) (fs_ret (q_kI 2 2 _ _ _ true rfl) (call_as m_Ldayby _ 1 _ rfl _ (fun es z => by cases z) h))
theorem lcellby_word (l : List Nat) (hl : l.length ≤ 1000) : m_Lcellby [.int 1, .str (S l)] = okd (optD (wordO l)) := by
  have hz : (l.length ≤ 16777216) = True := by simp; omega
  unfold m_Lcellby runD t_Lcellby
  show fin (dseq _ _ [.im (.int 1), .im (.str (S l)), .un, .un]) = _
  refine fs_skip (q_kI 1 0 _ _ _ false rfl) (fs_skip (q_kI 1 2 _ _ _ false rfl) ?_)
  have hp := plain_ok (j := 1) (i := 3) (l := l) (ℓ := [.im (.int 1), .im (.str (S l)), .un, .un]) hl rfl rfl
  refine fs_nx (ℓ1 := [.im (.int 1), .im (.str (S l)), .im (.bool (l.all ltr)), .un]) ?_ ?_
  · unfold dset
    rw [hp]
    simp [putW]
  have hc : dchain leB leB (dk (.int 1)) (dbi fLen (dcons (dv 1) dnil)) (dk (.int 8)) [.im (.int 1), .im (.str (S l)), .im (.bool (l.all ltr)), .un] = some (.ok (.d (.bool (decide (1 ≤ l.length ∧ l.length ≤ 8)))) [.im (.int 1), .im (.str (S l)), .im (.bool (l.all ltr)), .un]) := by
    by_cases h1 : 1 ≤ l.length
    · have e1 : leB 1 (l.length : Int) = true := by unfold leB; rw [decide_eq_true_eq]; omega
      have e2 : leB (l.length : Int) 8 = decide (1 ≤ l.length ∧ l.length ≤ 8) := by unfold leB; rw [decide_eq_decide]; omega
      simp [dchain, bindE, arg, dk, peek, dbi, dcons, dnil, dv, peeks, fLen, S_len, hz, e1, e2]
    · have e1 : leB 1 (l.length : Int) = false := by unfold leB; rw [decide_eq_false_iff_not]; omega
      have e2 : decide (1 ≤ l.length ∧ l.length ≤ 8) = false := by rw [decide_eq_false_iff_not]; omega
      simp [dchain, bindE, arg, dk, peek, dbi, dcons, dnil, dv, peeks, fLen, S_len, hz, e1, e2]
  have q : dand (dtv (dv 2)) (dtv (dchain leB leB (dk (.int 1)) (dbi fLen (dcons (dv 1) dnil)) (dk (.int 8)))) [.im (.int 1), .im (.str (S l)), .im (.bool (l.all ltr)), .un] = some (.ok (l.all ltr && decide (1 ≤ l.length ∧ l.length ≤ 8)) [.im (.int 1), .im (.str (S l)), .im (.bool (l.all ltr)), .un]) := by
    unfold dand bindT
    have q0 : dtv (dv 2) [.im (.int 1), .im (.str (S l)), .im (.bool (l.all ltr)), .un] = some (.ok (l.all ltr) [.im (.int 1), .im (.str (S l)), .im (.bool (l.all ltr)), .un]) := by simp [dtv, arg, dv]
    rw [q0]
    cases hb : l.all ltr with
    | false => rfl
    | true =>
      rw [hb] at hc
      simp only [if_true, Bool.true_and]
      unfold dtv arg
      rw [hc]
  unfold wordO
  by_cases hw : (1 ≤ l.length ∧ l.length ≤ 8) ∧ l.all ltr = true
  · rw [if_pos hw]
    have : (l.all ltr && decide (1 ≤ l.length ∧ l.length ≤ 8)) = true := by rw [hw.2, decide_eq_true hw.1]; rfl
    rw [this] at q
    refine fs_ret q ?_
    simp [fin, dret, dv, optD]
  · rw [if_neg hw]
    have : (l.all ltr && decide (1 ≤ l.length ∧ l.length ≤ 8)) = false := by
      cases hb : l.all ltr
      · rfl
      · simp only [Bool.true_and, decide_eq_false_iff_not]; exact fun z => hw ⟨z, hb⟩
    rw [this] at q
    refine fs_skip q ?_
    simp [fin, dret, dk, optD]
end K10

namespace K10
open PySem PySem.Spec PyProof.Rows L2 DL
/-! ### days -/
def leapB (y : Int) : Bool := decide (y % 400 = 0) || (decide (y % 4 = 0) && !decide (y % 100 = 0))
def lenOf (y m : Int) : Int := if m = 2 then (if leapB y = true then 29 else 28) else if m = 4 ∨ m = 6 ∨ m = 9 ∨ m = 11 then 30 else 31
def ahd (y : Int) : Int := 365 * (y - 1) + (y - 1) / 4 - (y - 1) / 100 + (y - 1) / 400
theorem fm (a b : Int) (h : 0 ≤ b) : a.fmod b = a % b := Int.fmod_eq_emod_of_nonneg a h
theorem fd (a b : Int) (h : 0 ≤ b) : a.fdiv b = a / b := Int.fdiv_eq_ediv_of_nonneg a h
theorem orB {ℓ0 : LS} {a b : CT} {x y : Bool} (ha : a ℓ0 = some (.ok x ℓ0)) (hb : b ℓ0 = some (.ok y ℓ0)) : dor a b ℓ0 = some (.ok (x || y) ℓ0) := by
  unfold dor bindT; rw [ha]; cases x
  · simpa using hb
  · rfl
theorem isleap_ok (y : Int) : m_isleap [.int y] = okd (.bool (leapB y)) := by
  unfold m_isleap runD t_isleap leapB
  show fin (dseq _ _ [.im (.int y)]) = _
  have e1 := fm y 400 (by decide)
  have e2 := fm y 4 (by decide)
  have e3 := fm y 100 (by decide)
  by_cases h : y % 400 = 0
  · refine (fs_ret (ℓ1 := [.im (.int y)]) (r := .d (.bool true)) ?_ ?_).trans ?_
    · simp [dtv, d2, arg, bindE, dv, dk, peek, fMod, fEq, shp_int, eqv_int, e1, h]
    · simp [fin, dret, dk]
    · simp [h]
  · refine fs_skip (ℓ1 := [.im (.int y)]) ?_ ?_
    · have : (y % 400 == 0) = false := by simpa using h
      simp [dtv, d2, arg, bindE, dv, dk, peek, fMod, fEq, shp_int, eqv_int, e1, this]
    · by_cases h4 : y % 4 = 0
      · have b4 : (y % 4 == 0) = true := by simpa using h4
        simp [fin, dret, dandV, d2, arg, bindE, dv, dk, peek, fMod, fEq, fNe, shp_int, eqv_int, e2, e3, h4, h, beq_dec]
      · have b4 : (y % 4 == 0) = false := by simpa using h4
        simp [fin, dret, dandV, d2, arg, bindE, dv, dk, peek, fMod, fEq, fNe, shp_int, eqv_int, e2, e3, h4, h, b4]
theorem lengthof_ok (y m : Int) : m_lengthof [.int y, .int m] = okd (.int (lenOf y m)) := by
  unfold m_lengthof runD t_lengthof lenOf
  show fin (dseq _ _ [.im (.int y), .im (.int m)]) = _
  have hl := isleap_ok y
  by_cases h2 : m = 2
  · refine (fs_ret (ℓ1 := [.im (.int y), .im (.int m)]) (r := .d (.int (28 + (if leapB y = true then 1 else 0)))) ?_ ?_).trans ?_
    · simp [dtv, d2, arg, bindE, dv, dk, peek, fEq, shp_int, eqv_int, h2]
    · cases hb : leapB y <;> rw [hb] at hl <;> simp [fin, dret, d2, arg, bindE, dv, dk, dbi, dcall, dcons, dnil, peeks, peek, hl, isSc, fInt, fAdd]
    · rw [if_pos h2]; cases leapB y <;> rfl
  · rw [if_neg h2]
    have b2 : (m == 2) = false := by simpa using h2
    refine fs_skip (ℓ1 := [.im (.int y), .im (.int m)]) ?_ ?_
    · simp [dtv, d2, arg, bindE, dv, dk, peek, fEq, shp_int, eqv_int, b2]
    · have q : dor (dtv (d2 fEq (dv 1) (dk (.int 4)))) (dor (dtv (d2 fEq (dv 1) (dk (.int 6)))) (dor (dtv (d2 fEq (dv 1) (dk (.int 9)))) (dtv (d2 fEq (dv 1) (dk (.int 11)))))) [.im (.int y), .im (.int m)] = some (.ok (decide (m = 4 ∨ m = 6 ∨ m = 9 ∨ m = 11)) [.im (.int y), .im (.int m)]) := by
        have qq : ∀ k : Int, dtv (d2 fEq (dv 1) (dk (.int k))) [.im (.int y), .im (.int m)] = some (.ok (decide (m = k)) [.im (.int y), .im (.int m)]) := fun k => by
          simp [dtv, d2, arg, bindE, dv, dk, peek, fEq, shp_int, eqv_int, beq_dec]
        have := orB (qq 4) (orB (qq 6) (orB (qq 9) (qq 11)))
        rw [this]
        congr 2
        rw [Bool.eq_iff_iff]; simp
      by_cases h : m = 4 ∨ m = 6 ∨ m = 9 ∨ m = 11
      · rw [if_pos h]
        rw [decide_eq_true h] at q
        exact fs_ret q (by simp [fin, dret, dk])
      · rw [if_neg h]
        rw [decide_eq_false h] at q
        exact fs_skip q (by simp [fin, dret, dk])
theorem aheadof_ok (y : Int) : m_aheadof [.int y] = okd (.int (ahd y)) := by
  unfold m_aheadof runD t_aheadof ahd
  show fin (dseq _ _ [.im (.int y), .un]) = _
  refine fs_nx (ℓ1 := [.im (.int y), .im (.int (y - 1))]) ?_ ?_
  · simp [dset, d2, arg, bindE, dv, dk, peek, fSub, putW]
  · have e1 := fd (y - 1) 4 (by decide)
    have e2 := fd (y - 1) 100 (by decide)
    have e3 := fd (y - 1) 400 (by decide)
    simp [fin, dret, d2, arg, bindE, dv, dk, peek, fSub, fAdd, fMul, mulOk, fDiv, divOk, e1, e2, e3]
theorem istoldday_ok (d : Int) : m_istoldday [.int d] = okd (.bool (decide (ahd 1000 ≤ d) && decide (d < ahd 9000))) := by
  have c1 := aheadof_ok 1000
  have c2 := aheadof_ok 9000
  have w := iswhole_any (.int d)
  have v1 : ahd 1000 = 364877 := by decide
  have v2 : ahd 9000 = 3286817 := by decide
  have hday : m_isday [.int d] = okd (.bool (decide (0 ≤ d) && decide (d ≤ 3652058))) := by
    unfold m_isday runD t_isday
    show fin (dret _ [.im (.int d)]) = _
    by_cases h0 : 0 ≤ d
    · simp [fin, dret, dandV, bindE, arg, dcall, dcons, dnil, dv, peeks, peek, w, isiB, isSc, d2, dk, fLe, h0]
    · simp [fin, dret, dandV, bindE, arg, dcall, dcons, dnil, dv, peeks, peek, w, isiB, isSc, d2, dk, fLe, h0]
  unfold m_istoldday runD t_istoldday
  show fin (dret _ [.im (.int d)]) = _
  rw [v1, v2]
  rw [v1] at c1
  rw [v2] at c2
  by_cases h0 : 0 ≤ d
  · by_cases h1 : d ≤ 3652058
    · by_cases h2 : 364877 ≤ d
      · simp [fin, dret, dandV, bindE, arg, dcall, dcons, dnil, dv, dk, peeks, peek, hday, isSc, d2, fLe, fLt, c1, c2, h0, h1, h2]
      · simp [fin, dret, dandV, bindE, arg, dcall, dcons, dnil, dv, dk, peeks, peek, hday, isSc, d2, fLe, fLt, c1, c2, h0, h1, h2]
    · have h3 : ¬ d < 3286817 := by omega
      simp [fin, dret, dandV, bindE, arg, dcall, dcons, dnil, dv, dk, peeks, peek, hday, isSc, d2, fLe, fLt, c1, c2, h0, h1, h3]
  · have h3 : ¬ 364877 ≤ d := by omega
    simp [fin, dret, dandV, bindE, arg, dcall, dcons, dnil, dv, dk, peeks, peek, hday, isSc, d2, fLe, fLt, c1, c2, h0, h3]
/-- the days of the months ahead -/
def sumOf (y : Int) (ks : List Int) : Int := (ks.map (lenOf y)).sum
theorem for_len (y m d : Int) : ∀ (ks : List Int) (f : Int) (x : L), ∃ z, dforL (.nm 4) (dset 3 (d2 fAdd (dv 3) (dcall m_lengthof (dcons (dv 0) (dcons (dv 4) dnil))))) (ks.map .int) [.im (.int y), .im (.int m), .im (.int d), .im (.int f), x] = some (.nx, [.im (.int y), .im (.int m), .im (.int d), .im (.int (f + sumOf y ks)), z])
  | [], f, x => ⟨x, by simp [dforL, sumOf]⟩
  | k :: ks, f, x => by
    obtain ⟨z, e⟩ := for_len y m d ks (f + lenOf y k) (.im (.int k))
    refine ⟨z, ?_⟩
    have hl := lengthof_ok y k
    have hb : bindP (.nm 4) (.int k) [.im (.int y), .im (.int m), .im (.int d), .im (.int f), x] = some [.im (.int y), .im (.int m), .im (.int d), .im (.int f), .im (.int k)] := rfl
    have ht : dset 3 (d2 fAdd (dv 3) (dcall m_lengthof (dcons (dv 0) (dcons (dv 4) dnil)))) [.im (.int y), .im (.int m), .im (.int d), .im (.int f), .im (.int k)] = some (.nx, [.im (.int y), .im (.int m), .im (.int d), .im (.int (f + lenOf y k)), .im (.int k)]) := by
      simp [dset, d2, arg, bindE, dv, dcall, dcons, dnil, peeks, peek, hl, isSc, fAdd, putW]
    rw [List.map_cons, dforL_go hb ht e]
    simp [sumOf]
    omega
def rgN (lo : Int) (n : Nat) : List Int := (List.range n).map fun (k : Nat) => lo + (k : Int)
def dayN (y m d : Int) : Int := ahd y + d - 1 + sumOf y (rgN 1 (m - 1).toNat)
theorem dayof_ok (y m d : Int) : m_dayof [.int y, .int m, .int d] = if (1 ≤ y ∧ y ≤ 9999 ∧ 1 ≤ m ∧ m ≤ 12) ∧ (1 ≤ d ∧ d ≤ lenOf y m) then okd (.int (dayN y m d)) else some (.ex ⟨"NoDay", none⟩) := by
  have w := fun i : Int => iswhole_any (.int i)
  have hl := lengthof_ok y m
  have ha := aheadof_ok y
  unfold m_dayof runD t_dayof
  show fin (dseq _ _ [.im (.int y), .im (.int m), .im (.int d), .un, .un]) = _
  generalize hℓ : ([.im (.int y), .im (.int m), .im (.int d), .un, .un] : LS) = ℓ0
  refine fs_skip (ℓ1 := ℓ0) ?_ ?_
  · rw [← hℓ]; simp [dor, bindT, dnot, dtv, arg, dcall, dcons, dnil, dv, peeks, peek, w, isiB, isSc, dyes]
  have or_of : ∀ {a b : CT} {x y : Bool}, a ℓ0 = some (.ok x ℓ0) → b ℓ0 = some (.ok y ℓ0) → dor a b ℓ0 = some (.ok (x || y) ℓ0) := fun {a b x y} ha hb => by
    unfold dor bindT; rw [ha]; cases x
    · simpa using hb
    · rfl
  have q1 : dtv (d2 fLt (dv 0) (dk (.int 1))) ℓ0 = some (.ok (decide (y < 1)) ℓ0) := by rw [← hℓ]; simp [dtv, arg, d2, bindE, dv, dk, peek, fLt]
  have q2 : dtv (d2 fGt (dv 0) (dk (.int 9999))) ℓ0 = some (.ok (decide (9999 < y)) ℓ0) := by rw [← hℓ]; simp [dtv, arg, d2, bindE, dv, dk, peek, fGt]
  have q3 : dtv (d2 fLt (dv 1) (dk (.int 1))) ℓ0 = some (.ok (decide (m < 1)) ℓ0) := by rw [← hℓ]; simp [dtv, arg, d2, bindE, dv, dk, peek, fLt]
  have q4 : dtv (d2 fGt (dv 1) (dk (.int 12))) ℓ0 = some (.ok (decide (12 < m)) ℓ0) := by rw [← hℓ]; simp [dtv, arg, d2, bindE, dv, dk, peek, fGt]
  have q5 : dtv (d2 fLt (dv 2) (dk (.int 1))) ℓ0 = some (.ok (decide (d < 1)) ℓ0) := by rw [← hℓ]; simp [dtv, arg, d2, bindE, dv, dk, peek, fLt]
  have q6 : dtv (d2 fGt (dv 2) (dcall m_lengthof (dcons (dv 0) (dcons (dv 1) dnil)))) ℓ0 = some (.ok (decide (lenOf y m < d)) ℓ0) := by rw [← hℓ]; simp [dtv, arg, d2, bindE, dv, dk, peek, fGt, dcall, dcons, dnil, peeks, hl, isSc]
  have T1 := or_of q1 (or_of q2 (or_of q3 q4))
  have T2 := or_of q5 q6
  by_cases c1 : 1 ≤ y ∧ y ≤ 9999 ∧ 1 ≤ m ∧ m ≤ 12
  · have e1 : (decide (y < 1) || (decide (9999 < y) || (decide (m < 1) || decide (12 < m)))) = false := by
      simp only [Bool.or_eq_false_iff, decide_eq_false_iff_not]; omega
    rw [e1] at T1
    refine fs_skip T1 ?_
    by_cases c2 : 1 ≤ d ∧ d ≤ lenOf y m
    · have e2 : (decide (d < 1) || decide (lenOf y m < d)) = false := by
        simp only [Bool.or_eq_false_iff, decide_eq_false_iff_not]; omega
      rw [e2] at T2
      rw [if_pos ⟨c1, c2⟩]
      refine fs_skip T2 ?_
      refine fs_nx (ℓ1 := [.im (.int y), .im (.int m), .im (.int d), .im (.int (ahd y + d - 1)), .un]) ?_ ?_
      · rw [← hℓ]; simp [dset, d2, arg, bindE, dv, dk, dcall, dcons, dnil, peeks, peek, ha, isSc, fAdd, fSub, putW]
      have es : dsrc rg2 (dcons (dk (.int 1)) (dcons (dv 1) dnil)) [.im (.int y), .im (.int m), .im (.int d), .im (.int (ahd y + d - 1)), .un] = some (.ok ((rgN 1 (m - 1).toNat).map .int) [.im (.int y), .im (.int m), .im (.int d), .im (.int (ahd y + d - 1)), .un]) := by
        have s1 : small62 1 = true := by decide
        have s2 : small62 m = true := by
          unfold small62; simp only [Bool.and_eq_true, decide_eq_true_eq]; omega
        simp [dsrc, dcons, dnil, arg, dk, dv, peeks, peek, rg2, s1, s2, rgI, rgN]
      obtain ⟨z, e⟩ := for_len y m d (rgN 1 (m - 1).toNat) (ahd y + d - 1) .un
      refine fs_nx (dfor_of es e) ?_
      simp [fin, dret, dv, dayN]
    · have e2 : (decide (d < 1) || decide (lenOf y m < d)) = true := by
        simp only [Bool.or_eq_true, decide_eq_true_eq]; omega
      rw [e2] at T2
      rw [if_neg (fun z => c2 z.2)]
      exact fs_ex (dife_t T2 rfl)
  · have e1 : (decide (y < 1) || (decide (9999 < y) || (decide (m < 1) || decide (12 < m)))) = true := by
      simp only [Bool.or_eq_true, decide_eq_true_eq]; omega
    rw [e1] at T1
    rw [if_neg (fun z => c1 z.1)]
    exact fs_ex (dife_t T1 rfl)
end K10

namespace K10
open PySem PySem.Spec PyProof.Rows L2 DL
/-! ### a day read -/
def dayv (l : List Nat) : Option (Nat × Nat × Nat) := match l with
  | [a, b, c, d, s, e, f, u, g, h] => if s = 45 ∧ u = 45 ∧ [a, b, c, d, e, f, g, h].all dg = true then some (PySem.NumText.digitsVal [a, b, c, d], PySem.NumText.digitsVal [e, f], PySem.NumText.digitsVal [g, h]) else none
  | _ => none
theorem ten (l : List Nat) (h : l.length = 10) : ∃ a b c d s e f u g k, l = [a, b, c, d, s, e, f, u, g, k] := by
  match l, h with
  | [a, b, c, d, s, e, f, u, g, k], _ => exact ⟨a, b, c, d, s, e, f, u, g, k, rfl⟩
theorem dayv_len (l : List Nat) (h : l.length ≠ 10) : dayv l = none := by
  unfold dayv
  split
  · exact absurd rfl h
  · rfl
section
variable (a b c d s e f u g k : Nat)
theorem ct1 : cutS (S [a, b, c, d, s, e, f, u, g, k]) none (some 4) = S [a, b, c, d] := by rw [S_cut]; rfl
theorem ct2 : cutS (S [a, b, c, d, s, e, f, u, g, k]) (some 5) (some 7) = S [e, f] := by rw [S_cut]; rfl
theorem ct3 : cutS (S [a, b, c, d, s, e, f, u, g, k]) (some 8) none = S [g, k] := by rw [S_cut]; rfl
theorem at0 : atI [a, b, c, d, s, e, f, u, g, k] 0 = some a := by simp [atI, ixN]
theorem at4 : atI [a, b, c, d, s, e, f, u, g, k] 4 = some s := by simp [atI, ixN]
theorem at7 : atI [a, b, c, d, s, e, f, u, g, k] 7 = some u := by simp [atI, ixN]
end
theorem one_eq (x y : Nat) : (S [x] == S [y]) = decide (x = y) := by rw [S_beq, Bool.eq_iff_iff]; simp
theorem readday_ok (l : List Nat) (hl : l.length ≤ 1000) : m_readday [.str (S l)] = (match dayv l with
    | some (y, m, d) => m_dayof [.int y, .int m, .int d]
    | none => some (.ex ⟨"NoDay", none⟩)) := by
  have hz : (l.length ≤ 16777216) = True := by simp; omega
  unfold m_readday runD t_readday
  show fin (dseq _ _ [.im (.str (S l)), .un]) = _
  have q0 : dnot (dtv (disi "str" (dv 0))) [.im (.str (S l)), .un] = some (.ok false [.im (.str (S l)), .un]) := by simp [dnot, bindT, dtv, disi, d1, arg, bindE, dv, peek, isiB, dyes]
  have q1 : dtv (d2 fNe (dbi fLen (dcons (dv 0) dnil)) (dk (.int 10))) [.im (.str (S l)), .un] = some (.ok (!decide ((l.length : Int) = 10)) [.im (.str (S l)), .un]) := by
    simp [dtv, d2, arg, bindE, dv, dk, dbi, dcons, dnil, peeks, peek, fLen, S_len, hz, fNe, shp_int, eqv_int, beq_dec]
  by_cases h10 : l.length = 10
  · obtain ⟨a, b, c, d, s, e, f, u, g, k, rfl⟩ := ten l h10
    have q4 : dtv (d2 fNe (d2 fIx (dv 0) (dk (.int 4))) (dk (.str "-"))) [.im (.str (S [a, b, c, d, s, e, f, u, g, k])), .un] = some (.ok (!decide (s = 45)) [.im (.str (S [a, b, c, d, s, e, f, u, g, k])), .un]) := by
      simp [dtv, d2, arg, bindE, dv, dk, peek, fIx, S_len, tl_S, at4, fNe, mk1, litM, one_eq]
    have q7 : dtv (d2 fNe (d2 fIx (dv 0) (dk (.int 7))) (dk (.str "-"))) [.im (.str (S [a, b, c, d, s, e, f, u, g, k])), .un] = some (.ok (!decide (u = 45)) [.im (.str (S [a, b, c, d, s, e, f, u, g, k])), .un]) := by
      simp [dtv, d2, arg, bindE, dv, dk, peek, fIx, S_len, tl_S, at7, fNe, mk1, litM, one_eq]
    have T := orB q0 (orB q1 (orB q4 q7))
    have e1 : (false || (!decide (((([a, b, c, d, s, e, f, u, g, k] : List Nat).length : Nat) : Int) = 10) || (!decide (s = 45) || !decide (u = 45)))) = !decide (s = 45 ∧ u = 45) := by
      by_cases hs : s = 45 <;> by_cases hu : u = 45 <;> simp [hs, hu]
    rw [e1] at T
    have e0 : dayv [a, b, c, d, s, e, f, u, g, k] = if s = 45 ∧ u = 45 ∧ [a, b, c, d, e, f, g, k].all dg = true then some (PySem.NumText.digitsVal [a, b, c, d], PySem.NumText.digitsVal [e, f], PySem.NumText.digitsVal [g, k]) else none := rfl
    rw [e0]
    by_cases hd : s = 45 ∧ u = 45
    · rw [decide_eq_true hd] at T
      refine fs_skip T ?_
      have es : dit (d2 fAdd (d2 fAdd (dsl (dv 0) none (some (dk (.int 4)))) (dsl (dv 0) (some (dk (.int 5))) (some (dk (.int 7))))) (dsl (dv 0) (some (dk (.int 8))) none)) [.im (.str (S [a, b, c, d, s, e, f, u, g, k])), .un] =
          some (.ok (([a, b, c, d, e, f, g, k] : List Nat).map fun c => .str (S [c])) [.im (.str (S [a, b, c, d, s, e, f, u, g, k])), .un]) := by
        simp [dit, arg, d2, bindE, dv, dk, peek, dsl, dpt, fSl, S_len, ct1, ct2, ct3, fAdd, S_app, keepW, items, S_signs]
      obtain ⟨y, ef⟩ := for_figs (dthrow "NoDay") (.ex ⟨"NoDay", none⟩) (fun _ => rfl) ⟨by simp, by simp, by simp⟩ 0 (.str (S [a, b, c, d, s, e, f, u, g, k])) [a, b, c, d, e, f, g, k] .un
      cases ha : [a, b, c, d, e, f, g, k].all dg with
      | false =>
        rw [ha] at ef
        rw [if_neg (fun z => by cases z.2.2)]
        exact fs_ex (dfor_of es ef)
      | true =>
        rw [ha] at ef
        rw [if_pos ⟨hd.1, hd.2, rfl⟩]
        refine fs_nx (dfor_of es ef) ?_
        simp only [List.all_cons, List.all_nil, Bool.and_true, Bool.and_eq_true] at ha
        obtain ⟨h1, h2, h3, h4, h5, h6, h7, h8⟩ := ha
        have i1 := int_figs (l := [a, b, c, d]) (by simp [h1, h2, h3, h4]) (by simp) (by simp)
        have i2 := int_figs (l := [e, f]) (by simp [h5, h6]) (by simp) (by simp)
        have i3 := int_figs (l := [g, k]) (by simp [h7, h8]) (by simp) (by simp)
        have hc := dayof_ok (PySem.NumText.digitsVal [a, b, c, d] : Nat) (PySem.NumText.digitsVal [e, f] : Nat) (PySem.NumText.digitsVal [g, k] : Nat)
        simp only
        generalize (((PySem.NumText.digitsVal [a, b, c, d] : Nat) : Int)) = Y at i1 hc ⊢
        generalize (((PySem.NumText.digitsVal [e, f] : Nat) : Int)) = M at i2 hc ⊢
        generalize (((PySem.NumText.digitsVal [g, k] : Nat) : Int)) = Dd at i3 hc ⊢
        by_cases hcc : (1 ≤ Y ∧ Y ≤ 9999 ∧ 1 ≤ M ∧ M ≤ 12) ∧ (1 ≤ Dd ∧ Dd ≤ lenOf Y M)
        · rw [if_pos hcc] at hc
          rw [hc]
          simp [fin, dret, dcall, dcons, dnil, dbi, arg, bindE, dv, dk, dsl, dpt, fSl, S_len, ct1, ct2, ct3, peeks, peek, fInt, i1, i2, i3, hc, isSc]
        · rw [if_neg hcc] at hc
          rw [hc]
          simp [fin, dret, dcall, dcons, dnil, dbi, arg, bindE, dv, dk, dsl, dpt, fSl, S_len, ct1, ct2, ct3, peeks, peek, fInt, i1, i2, i3, hc, keepWs, keepW]
    · rw [decide_eq_false hd] at T
      rw [if_neg (fun z => hd ⟨z.1, z.2.1⟩)]
      exact fs_ex (dife_t T rfl)
  · have e1 : (!decide ((l.length : Int) = 10)) = true := by
      rw [Bool.not_eq_true', decide_eq_false_iff_not]; omega
    rw [e1] at q1
    rw [dayv_len l h10]
    refine fs_ex (dife_t (ℓ1 := [.im (.str (S l)), .un]) ?_ rfl)
    show bindT _ _ _ = _
    unfold bindT
    rw [q0]
    simp only [Bool.false_eq_true, if_false]
    unfold dor bindT
    rw [q1]
    rfl
end K10

namespace K10
open PySem PySem.Spec PyProof.Rows L2 DL
theorem allI_map (l : List Int) : DL.allI (l.map .int) = some l := by
  induction l with
  | nil => rfl
  | cons c l ih => simp [DL.allI, ih]
def LenL (y : Int) : List Int := (rgN 1 12).map (lenOf y)
theorem rg12 : rgN 1 12 = [1, 2, 3, 4, 5, 6, 7, 8, 9, 10, 11, 12] := by decide
theorem LenL_eq (y : Int) : LenL y = [31, 28 + (if leapB y = true then 1 else 0), 31, 30, 31, 30, 31, 31, 30, 31, 30, 31] := by
  unfold LenL
  rw [rg12]
  have h2 : lenOf y 2 = 28 + (if leapB y = true then 1 else 0) := by
    unfold lenOf; rw [if_pos rfl]; cases leapB y <;> rfl
  simp only [List.map_cons, List.map_nil, h2]
  simp [lenOf]
theorem llengths_ok (y : Int) : m_Llengths [.int y] = some (.fr ((LenL y).map .int)) := by
  rw [LenL_eq]
  unfold m_Llengths runD t_Llengths
  show fin (dseq _ _ [.im (.int y), .un]) = _
  have e2 := fm y 4 (by decide)
  have e3 := fm y 100 (by decide)
  have e1 := fm y 400 (by decide)
  refine fs_nx (ℓ1 := [.im (.int y), .im (.bool (leapB y))]) ?_ ?_
  · have hb : leapB y = (decide (y % 4 = 0) && (!decide (y % 100 = 0) || decide (y % 400 = 0))) := by
      unfold leapB
      rw [Bool.eq_iff_iff]
      simp
      omega
    rw [hb]
    by_cases h4 : y % 4 = 0
    · by_cases h100 : y % 100 = 0
      · simp [dset, dandV, dorV, d2, arg, bindE, dv, dk, peek, fMod, fEq, fNe, shp_int, eqv_int, e1, e2, e3, h4, h100, putW, beq_dec]
      · simp [dset, dandV, dorV, d2, arg, bindE, dv, dk, peek, fMod, fEq, fNe, shp_int, eqv_int, e1, e2, e3, h4, h100, putW, beq_dec]
    · have b4 : (y % 4 == 0) = false := by simpa using h4
      simp [dset, dandV, dorV, d2, arg, bindE, dv, dk, peek, fMod, fEq, fNe, shp_int, eqv_int, e1, e2, e3, h4, b4, putW]
  · cases hb : leapB y <;> simp [fin, dret, dlst, dcons, dnil, arg, d2, bindE, dk, dv, dbi, peeks, peek, fInt, fAdd, keepAll, keepWs, keepW]
/-! ### texts of whole numbers -/
theorem d2_ok {f : D → D → Option W} {ta tb : CE} {ℓ : LS} {a b : D} {w : W} (ha : ta ℓ = some (.ok (.d a) ℓ)) (hb : tb ℓ = some (.ok (.d b) ℓ)) (hf : f a b = some w) : d2 f ta tb ℓ = some (.ok w ℓ) := by
  simp only [d2, bindE, arg, ha, hb, peek, hf]
theorem fadd_S {p q : List Nat} (h : p.length + q.length ≤ 16777216) : fAdd (.str (S p)) (.str (S q)) = some (.d (.str (S (p ++ q)))) := by
  simp only [fAdd, S_len, if_pos h, S_app]
theorem str_nat (n : Nat) : (Str.ofString (toString ((n : Nat) : Int))) = S (TL.numL n) := by
  rw [← S_tl (Str.ofString (toString ((n : Nat) : Int)))]
  exact congrArg S (TL.tl_num n)
theorem log_small {n : Nat} (h : n < 2 ^ 200) : n.log2 < 1920 := by
  by_cases h0 : n = 0
  · subst h0; decide
  · exact (Nat.log2_lt h0).mpr (Nat.lt_of_lt_of_le h (Nat.pow_le_pow_right (by decide) (by decide)))
theorem fstr_nat (n : Nat) (h : n < 2 ^ 200) : fStr [.int (n : Int)] = some (.d (.str (S (TL.numL n)))) := by
  show (if ((n : Int)).natAbs.log2 < 1920 then some (W.d (.str (Str.ofString (toString ((n : Nat) : Int))))) else none) = _
  rw [if_pos (by simpa using log_small h), str_nat]
theorem num2 {n : Nat} (h : n < 100) : Txt.zfill (S (TL.numL n)) 2 = S [48 + n / 10, 48 + n % 10] := by
  unfold Txt.zfill
  rw [S_len]
  by_cases h1 : n < 10
  · have e := TL.numL_lt h1
    rw [e]
    rw [if_neg (by simp)]
    have d0 : n / 10 = 0 := by omega
    have m0 : n % 10 = n := by omega
    have c0 : (S [48 + n]).cps[0]? = some (48 + n) := by simp [S]
    unfold PySem.zfilled
    rw [c0]
    have : (match (some (48 + n) : Option Nat) with
      | some 43 => PySem.Builtin.Str.strSub (S [48 + n]) 0 1 ++ PySem.Builtin.Str.padded (PySem.Builtin.Str.strSub (S [48 + n]) 1 (S [48 + n]).length) ((2 : Int).toNat - [48 + n].length) 0 48
      | some 45 => PySem.Builtin.Str.strSub (S [48 + n]) 0 1 ++ PySem.Builtin.Str.padded (PySem.Builtin.Str.strSub (S [48 + n]) 1 (S [48 + n]).length) ((2 : Int).toNat - [48 + n].length) 0 48
      | _ => PySem.Builtin.Str.padded (S [48 + n]) ((2 : Int).toNat - [48 + n].length) 0 48) = PySem.Builtin.Str.padded (S [48 + n]) ((2 : Int).toNat - [48 + n].length) 0 48 := by
      split
      · rename_i z; have := Option.some.inj z; omega
      · rename_i z; have := Option.some.inj z; omega
      · rfl
    rw [d0, m0]
    refine Eq.trans ?_ (this.trans ?_)
    · rfl
    · simp [PySem.Builtin.Str.padded, S]
  · have e := TL.numL_step (n := n) (by omega)
    have e2 := TL.numL_lt (n := n / 10) (by omega)
    rw [e, e2]
    rw [if_pos (by simp)]
    rfl
theorem num4 {n : Nat} (h0 : 1000 ≤ n) (h : n < 10000) : TL.numL n = [48 + n / 1000, 48 + n / 100 % 10, 48 + n / 10 % 10, 48 + n % 10] := by
  rw [TL.numL_step (n := n) (by omega), TL.numL_step (n := n / 10) (by omega), TL.numL_step (n := n / 10 / 10) (by omega), TL.numL_lt (n := n / 10 / 10 / 10) (by omega)]
  simp [Nat.div_div_eq_div_mul]
/-- the text of a day -/
def dtx (y m d : Nat) : List Nat := [48 + y / 1000, 48 + y / 100 % 10, 48 + y / 10 % 10, 48 + y % 10, 45, 48 + m / 10, 48 + m % 10, 45, 48 + d / 10, 48 + d % 10]
theorem atI_map {α β : Type} (f : α → β) (l : List α) (i : Int) : atI (l.map f) i = (atI l i).map f := by
  unfold atI
  rw [List.length_map]
  cases ixN l.length i with
  | none => rfl
  | some j => simp
theorem atI_nn {α : Type} {l : List α} {n : Nat} (h : n < l.length) : atI l (n : Int) = some l[n] := atI_nat (List.getElem?_eq_getElem h)
theorem LenL_len (y : Int) : (LenL y).length = 12 := by rw [LenL_eq]; rfl
theorem LenL_at (y : Int) (mi : Nat) (h : mi < 12) : atI (LenL y) (mi : Int) = some (lenOf y (1 + mi)) := by
  rw [atI_nn (by rw [LenL_len]; exact h)]
  unfold LenL rgN
  simp
theorem LenL_take (y : Int) (mi : Nat) (h : mi ≤ 12) : (LenL y).take mi = (rgN 1 mi).map (lenOf y) := by
  unfold LenL rgN
  rw [← List.map_take, ← List.map_take, List.take_range]
  rw [Nat.min_eq_left h]
theorem lenOf_pos (y m : Int) : 28 ≤ lenOf y m ∧ lenOf y m ≤ 31 := by
  unfold lenOf; split
  · split <;> omega
  · split <;> omega
theorem lday_ok (a mi x : Nat) (ha : 1000 + a < 10000) (hm : mi < 12) : m_Lday [.list [.int a, .int mi, .int x]] = okd (.tuple [.int (dayN (1000 + a) (1 + mi) (1 + (x : Int) % lenOf (1000 + a) (1 + mi))), .str (S (dtx (1000 + a) (1 + mi) (1 + ((x : Int) % lenOf (1000 + a) (1 + mi)).toNat)))]) := by
  have hl := llengths_ok (1000 + (a : Int))
  have hp := lenOf_pos (1000 + (a : Int)) (1 + (mi : Int))
  have i0 : atI ([.int (a : Int), .int (mi : Int), .int (x : Int)] : List D) 0 = some (.int a) := by simp [atI, ixN]
  have i1 : atI ([.int (a : Int), .int (mi : Int), .int (x : Int)] : List D) 1 = some (.int mi) := by simp [atI, ixN]
  have i2 : atI ([.int (a : Int), .int (mi : Int), .int (x : Int)] : List D) 2 = some (.int x) := by simp [atI, ixN]
  have iL : atI ((LenL (1000 + (a : Int))).map .int) (mi : Int) = some (.int (lenOf (1000 + a) (1 + mi)) : D) := by rw [atI_map, LenL_at _ _ hm]; rfl
  unfold m_Lday runD t_Lday
  show fin (dseq _ _ [.im (.list [.int a, .int mi, .int x]), .un, .un, .un, .un, .un]) = _
  generalize hlst : ([.int (a : Int), .int (mi : Int), .int (x : Int)] : List D) = dl at *
  generalize hlen : lenOf (1000 + (a : Int)) (1 + (mi : Int)) = len at *
  refine fs_nx (ℓ1 := [.im (.list dl), .im (.int (1000 + a)), .un, .un, .un, .un]) ?_ ?_
  · simp [dset, d2, arg, bindE, dv, dk, peek, fIx, i0, fAdd, putW]
  refine fs_nx (ℓ1 := [.im (.list dl), .im (.int (1000 + a)), .ow ((LenL (1000 + (a : Int))).map .int), .un, .un, .un]) ?_ ?_
  · simp [dset, dcall, dcons, dnil, arg, dv, peeks, peek, hl, keepWs, keepW, putW]
  refine fs_nx (ℓ1 := [.im (.list dl), .im (.int (1000 + a)), .ow ((LenL (1000 + (a : Int))).map .int), .im (.int (ahd (1000 + a))), .un, .un]) ?_ ?_
  · have e1 := fd (1000 + (a : Int) - 1) 4 (by decide)
    have e2 := fd (1000 + (a : Int) - 1) 100 (by decide)
    have e3 := fd (1000 + (a : Int) - 1) 400 (by decide)
    simp [dset, d2, arg, bindE, dv, dk, peek, fSub, fAdd, fMul, mulOk, fDiv, divOk, e1, e2, e3, putW, ahd]
  refine fs_nx (ℓ1 := [.im (.list dl), .im (.int (1000 + a)), .ow ((LenL (1000 + (a : Int))).map .int), .im (.int (ahd (1000 + a))), .im (.int ((x : Int) % len)), .un]) ?_ ?_
  · have e4 := fm (x : Int) len (by omega)
    have nz : len ≠ 0 := by omega
    simp [dset, d2, arg, bindE, dv, dk, peek, fIx, i1, i2, iL, fMod, nz, e4, putW]
  have hx0 : 0 ≤ (x : Int) % len := Int.emod_nonneg _ (by omega)
  have hx1 : (x : Int) % len < len := Int.emod_lt_of_pos _ (by omega)
  obtain ⟨z, hz⟩ := Int.eq_ofNat_of_zero_le hx0
  rw [hz] at hx1 ⊢
  have s1 := fstr_nat (1000 + a) (by have : (10000 : Nat) < 2 ^ 200 := by decide
                                     omega)
  have s2 := fstr_nat (mi + 1) (by have : (10000 : Nat) < 2 ^ 200 := by decide
                                   omega)
  have s3 := fstr_nat (z + 1) (by have : (10000 : Nat) < 2 ^ 200 := by decide
                                  omega)
  have n1 := num4 (n := 1000 + a) (by omega) ha
  have n2 := num2 (n := mi + 1) (by omega)
  have n3 := num2 (n := z + 1) (by omega)
  rw [n1] at s1
  have c1 : ((1000 + a : Nat) : Int) = 1000 + (a : Int) := by omega
  have c2 : ((mi + 1 : Nat) : Int) = (mi : Int) + 1 := by omega
  have c3 : ((z + 1 : Nat) : Int) = (z : Int) + 1 := by omega
  rw [c1] at s1
  rw [c2] at s2
  rw [c3] at s3
  refine fs_nx (ℓ1 := [.im (.list dl), .im (.int (1000 + a)), .ow ((LenL (1000 + (a : Int))).map .int), .im (.int (ahd (1000 + a))), .im (.int (z : Int)), .im (.str (S (dtx (1000 + a) (1 + mi) (1 + z))))]) ?_ ?_
  · have q1 : dbi fStr (dcons (dv 1) dnil) [.im (.list dl), .im (.int (1000 + a)), .ow ((LenL (1000 + (a : Int))).map .int), .im (.int (ahd (1000 + a))), .im (.int (z : Int)), .un] = some (.ok (.d (.str (S [48 + (1000 + a) / 1000, 48 + (1000 + a) / 100 % 10, 48 + (1000 + a) / 10 % 10, 48 + (1000 + a) % 10]))) [.im (.list dl), .im (.int (1000 + a)), .ow ((LenL (1000 + (a : Int))).map .int), .im (.int (ahd (1000 + a))), .im (.int (z : Int)), .un]) := by
      simp [dbi, dcons, dnil, arg, dv, peeks, peek, s1]
    have q2 : dm1 fZfill (dbi fStr (dcons (d2 fAdd (d2 fIx (dv 0) (dk (.int 1))) (dk (.int 1))) dnil)) (dk (.int 2)) [.im (.list dl), .im (.int (1000 + a)), .ow ((LenL (1000 + (a : Int))).map .int), .im (.int (ahd (1000 + a))), .im (.int (z : Int)), .un] = some (.ok (.d (.str (S [48 + (mi + 1) / 10, 48 + (mi + 1) % 10]))) [.im (.list dl), .im (.int (1000 + a)), .ow ((LenL (1000 + (a : Int))).map .int), .im (.int (ahd (1000 + a))), .im (.int (z : Int)), .un]) := by
      simp [dm1, dbi, dcons, dnil, arg, d2, bindE, dv, dk, peeks, peek, fIx, i1, fAdd, s2, fZfill, n2]
    have q3 : dm1 fZfill (dbi fStr (dcons (d2 fAdd (dv 4) (dk (.int 1))) dnil)) (dk (.int 2)) [.im (.list dl), .im (.int (1000 + a)), .ow ((LenL (1000 + (a : Int))).map .int), .im (.int (ahd (1000 + a))), .im (.int (z : Int)), .un] = some (.ok (.d (.str (S [48 + (z + 1) / 10, 48 + (z + 1) % 10]))) [.im (.list dl), .im (.int (1000 + a)), .ow ((LenL (1000 + (a : Int))).map .int), .im (.int (ahd (1000 + a))), .im (.int (z : Int)), .un]) := by
      simp [dm1, dbi, dcons, dnil, arg, d2, bindE, dv, dk, peeks, peek, fAdd, s3, fZfill, n3]
    have dash : ∀ ℓ : LS, dk (.str (Str.ofString "-")) ℓ = some (.ok (.d (.str (S [45]))) ℓ) := fun ℓ => by rw [litM]; rfl
    have all := d2_ok (d2_ok (d2_ok (d2_ok q1 (dash _) (fadd_S (by simp))) q2 (fadd_S (by simp))) (dash _) (fadd_S (by simp))) q3 (fadd_S (by simp))
    unfold dset
    rw [all]
    simp [putW, dtx, Nat.add_comm]
  · have hs : cutD ((LenL (1000 + (a : Int))).map PyData.int) none (some (mi : Int)) = ((rgN 1 mi).map (lenOf (1000 + a))).map PyData.int := by
      have e0 : HT.sIx 12 0 none = 0 := rfl
      have e1 : HT.sIx 12 12 (some (mi : Int)) = mi := by rw [HT.sIx_nat]; omega
      unfold DL.cutD
      rw [List.length_map, LenL_len, e0, e1, List.drop_zero, Nat.sub_zero, ← List.map_take, LenL_take _ _ (by omega)]
    have hn : dayN (1000 + (a : Int)) (1 + (mi : Int)) (1 + (z : Int)) = ahd (1000 + a) + sumOf (1000 + a) (rgN 1 mi) + z := by
      unfold dayN
      have : (1 + (mi : Int) - 1).toNat = mi := by omega
      rw [this]; omega
    rw [hn]
    generalize hℓ : ([.im (.list dl), .im (.int (1000 + a)), .ow ((LenL (1000 + (a : Int))).map .int), .im (.int (ahd (1000 + a))), .im (.int (z : Int)), .im (.str (S (dtx (1000 + a) (1 + mi) (1 + z))))] : LS) = ℓ0
    have p1 : dbi fSum (dcons (dsl (dv 2) none (some (d2 fIx (dv 0) (dk (.int 1))))) dnil) ℓ0 = some (.ok (.d (.int (sumOf (1000 + a) (rgN 1 mi)))) ℓ0) := by
      have w1 : d2 fIx (dv 0) (dk (.int 1)) ℓ0 = some (.ok (.d (.int mi)) ℓ0) := by rw [← hℓ]; exact d2_ok (by simp [dv]; rfl) rfl (by simp [fIx, i1])
      have w2 : dsl (dv 2) none (some (d2 fIx (dv 0) (dk (.int 1)))) ℓ0 = some (.ok (.fr (((rgN 1 mi).map (lenOf (1000 + a))).map .int)) ℓ0) := by
        have v2 : dv 2 ℓ0 = some (.ok (.o 2) ℓ0) := by rw [← hℓ]; rfl
        have k2 : peek ℓ0 (.o 2) = some (.list ((LenL (1000 + (a : Int))).map .int)) := by rw [← hℓ]; rfl
        have k1 : peek ℓ0 (.d (.int mi)) = some (.int mi) := rfl
        simp only [dsl, dpt, bindE, arg, v2, w1, k1, k2, fSl, hs]
      simp only [dbi, dcons, dnil, arg, w2, peeks, peek, fSum, allI_map, Option.map, sumOf]
    have p2 : dv 3 ℓ0 = some (.ok (.d (.int (ahd (1000 + a)))) ℓ0) := by rw [← hℓ]; rfl
    have p3 : dv 4 ℓ0 = some (.ok (.d (.int z)) ℓ0) := by rw [← hℓ]; rfl
    have p4 : dv 5 ℓ0 = some (.ok (.d (.str (S (dtx (1000 + a) (1 + mi) (1 + z))))) ℓ0) := by rw [← hℓ]; rfl
    have p5 := d2_ok (f := fAdd) (d2_ok (f := fAdd) p2 p1 (w := .d (.int (ahd (1000 + a) + sumOf (1000 + a) (rgN 1 mi)))) rfl) p3 (w := .d (.int (ahd (1000 + a) + sumOf (1000 + a) (rgN 1 mi) + z))) rfl
    simp only [fin, dret, dtup, dcons, dnil, arg, p5, p4, keepAll, peeks, peek, keepWs, keepW]
    rfl
end K10

namespace K10
open PySem PySem.Spec PyProof.Rows L2 DL
/-! ### a day's place in its year -/
theorem leap_ahd (y : Int) : ahd (y + 1) = ahd y + 365 + (if leapB y = true then 1 else 0) := by
  unfold ahd leapB
  by_cases h4 : y % 400 = 0
  · simp only [h4, decide_true, Bool.true_or, if_true]; omega
  · by_cases h1 : y % 4 = 0
    · by_cases h2 : y % 100 = 0
      · simp only [h4, h1, h2, decide_true, decide_false, Bool.not_true, Bool.and_false, Bool.or_false, Bool.false_eq_true, if_false]; omega
      · simp only [h4, h1, h2, decide_true, decide_false, Bool.not_false, Bool.and_true, Bool.or_true, if_true]; omega
    · simp only [h4, h1, decide_false, Bool.false_and, Bool.or_false, Bool.false_eq_true, if_false]; omega
theorem sum_bound (y : Int) (mi : Nat) (h : mi < 12) : 0 ≤ sumOf y (rgN 1 mi) ∧ sumOf y (rgN 1 mi) + lenOf y (1 + (mi : Int)) ≤ 365 + (if leapB y = true then 1 else 0) := by
  have hL : ∀ k : Nat, k ≤ 12 → sumOf y (rgN 1 k) = ((LenL y).take k).sum := fun k hk => by rw [LenL_take _ _ hk]; rfl
  have hA : ∀ k : Nat, k < 12 → (LenL y)[k]? = some (lenOf y (1 + (k : Int))) := fun k hk => by
    have := LenL_at y k hk
    rwa [atI_nn (by rw [LenL_len]; exact hk), ← List.getElem?_eq_getElem] at this
  rw [hL mi (by omega)]
  have ha := hA mi h
  rw [LenL_eq] at ha ⊢
  have hb : 0 ≤ (if leapB y = true then (1 : Int) else 0) ∧ (if leapB y = true then (1 : Int) else 0) ≤ 1 := by split <;> omega
  generalize (if leapB y = true then (1 : Int) else 0) = b at *
  rcases mi with _|_|_|_|_|_|_|_|_|_|_|_|mi
  all_goals first | omega | skip
  all_goals simp only [List.getElem?_cons_zero, List.getElem?_cons_succ, Option.some.injEq, Nat.zero_add, Nat.reduceAdd] at ha
  all_goals rw [← ha]
  all_goals simp
  all_goals omega
theorem dayN_bound (y m d : Int) (hm : 1 ≤ m ∧ m ≤ 12) (hd : 1 ≤ d ∧ d ≤ lenOf y m) : ahd y ≤ dayN y m d ∧ dayN y m d < ahd (y + 1) := by
  obtain ⟨mi, rfl⟩ : ∃ mi : Nat, m = 1 + (mi : Int) := ⟨(m - 1).toNat, by omega⟩
  have hs := sum_bound y mi (by omega)
  have e : (1 + (mi : Int) - 1).toNat = mi := by omega
  have hl := leap_ahd y
  unfold dayN
  rw [e]
  omega
theorem ahd_mono {x y : Int} (h : x ≤ y) : ahd x ≤ ahd y := by
  obtain ⟨n, rfl⟩ : ∃ n : Nat, y = x + (n : Int) := ⟨(y - x).toNat, by omega⟩
  clear h
  induction n with
  | zero => simp
  | succ n ih =>
    have hl := leap_ahd (x + n)
    have : x + ((n + 1 : Nat) : Int) = x + n + 1 := by omega
    rw [this]
    split at hl <;> omega
theorem told_day (y m d : Int) (hm : 1 ≤ m ∧ m ≤ 12) (hd : 1 ≤ d ∧ d ≤ lenOf y m) : (decide (ahd 1000 ≤ dayN y m d) && decide (dayN y m d < ahd 9000)) = decide (1000 ≤ y ∧ y < 9000) := by
  have hb := dayN_bound y m d hm hd
  rw [← Bool.decide_and, decide_eq_decide]
  constructor
  · rintro ⟨h1, h2⟩
    constructor
    · by_cases c : 1000 ≤ y
      · exact c
      · have := ahd_mono (x := y + 1) (y := 1000) (by omega); omega
    · by_cases c : y < 9000
      · exact c
      · have := ahd_mono (x := 9000) (y := y) (by omega); omega
  · rintro ⟨h1, h2⟩
    have a1 := ahd_mono (x := 1000) (y := y) h1
    have a2 := ahd_mono (x := y + 1) (y := 9000) (by omega)
    omega
def dayO (l : List Nat) : Option D := match dayv l with
  | some (y, m, d) => if (1000 ≤ y ∧ y < 9000 ∧ 1 ≤ m ∧ m ≤ 12) ∧ (1 ≤ d ∧ (d : Int) ≤ lenOf y m) then some (.int (dayN y m d)) else none
  | none => none
theorem rc_day (l : List Nat) (hl : l.length ≤ 1000) (hd : l ≠ [45]) : m_readcell [.str "day", .str (S l)] = outD (dayO l) := by
  have h := readday_ok l hl
  unfold dayO
  cases hr : dayv l with
  | none =>
    rw [hr] at h
    exact rc_ex _ l hd "NoDay" isa_day (cellby_day _ _ (fun es z => by cases z) h)
  | some p =>
    obtain ⟨y, m, d⟩ := p
    rw [hr] at h
    simp only at h ⊢
    rw [dayof_ok] at h
    by_cases hc : (1 ≤ (y : Int) ∧ (y : Int) ≤ 9999 ∧ 1 ≤ (m : Int) ∧ (m : Int) ≤ 12) ∧ (1 ≤ (d : Int) ∧ (d : Int) ≤ lenOf y m)
    · rw [if_pos hc] at h
      have ht := istoldday_ok (dayN y m d)
      rw [told_day y m d hc.1.2.2 hc.2] at ht
      rw [rc_ok "day" l hd _ (by simp) _ (cellby_day _ _ (fun es z => by cases z) h) (iscell_day _ (by simp) _ ht)]
      by_cases c2 : (1000 ≤ (y : Int) ∧ (y : Int) < 9000)
      · rw [if_pos (decide_eq_true c2), if_pos ⟨⟨by omega, by omega, by omega, by omega⟩, by omega, hc.2.2⟩]; rfl
      · rw [if_neg (by simpa using c2), if_neg (fun z => c2 ⟨by omega, by omega⟩)]; rfl
    · rw [if_neg hc] at h
      rw [if_neg (fun z => hc ⟨⟨by omega, by omega, by omega, by omega⟩, by omega, z.2.2⟩)]
      exact rc_ex _ l hd "NoDay" isa_day (cellby_day _ _ (fun es z => by cases z) h)
/-! ### the law's reader of a day -/
theorem figI_all {l : List Nat} (h : l.all dg = true) (h0 : l ≠ []) (h1 : l.length ≤ 60) (h2 : l.head? ≠ some 48) : figI l = (PySem.NumText.digitsVal l : Nat) := by
  unfold figI figs
  rw [if_neg h0, if_neg (by omega), if_neg (by rw [h]; simp), if_neg (fun z => h2 z.2)]
theorem figI_bad {l : List Nat} (h : l.all dg = false) : figI l = -1 := by
  unfold figI figs
  by_cases h0 : l = []
  · rw [if_pos h0]
  · rw [if_neg h0]
    by_cases h1 : 60 < l.length
    · rw [if_pos h1]
    · rw [if_neg h1, if_pos h]
theorem lit18 (c : Nat) : strIn (S [c]) (Str.ofString "12345678") = decide (49 ≤ c ∧ c ≤ 56) := by
  rw [S_in1, lit, tl_S, decide_eq_decide]
  constructor
  · intro h
    simp at h
    omega
  · intro h
    have : c = 49 ∨ c = 50 ∨ c = 51 ∨ c = 52 ∨ c = 53 ∨ c = 54 ∨ c = 55 ∨ c = 56 := by omega
    rcases this with rfl|rfl|rfl|rfl|rfl|rfl|rfl|rfl <;> decide
theorem lit1 : Str.ofString "1" = S [49] := by rw [lit]; rfl
theorem dg_of {c : Nat} (h : dg c = true) : 48 ≤ c ∧ c ≤ 57 := by simpa [dg] using h
theorem dv4 (a b c d : Nat) : PySem.NumText.digitsVal [a, b, c, d] = (((a - 48) * 10 + (b - 48)) * 10 + (c - 48)) * 10 + (d - 48) := by simp [PySem.NumText.digitsVal]
theorem dv3 (a b c : Nat) : PySem.NumText.digitsVal [a, b, c] = ((a - 48) * 10 + (b - 48)) * 10 + (c - 48) := by simp [PySem.NumText.digitsVal]
theorem dv2 (a b : Nat) : PySem.NumText.digitsVal [a, b] = (a - 48) * 10 + (b - 48) := by simp [PySem.NumText.digitsVal]
theorem ldayby_ok (l : List Nat) (hl : l.length ≤ 1000) : m_Ldayby [.str (S l)] = okd (optD (dayO l)) := by
  have hz : (l.length ≤ 16777216) = True := by simp; omega
  unfold m_Ldayby runD t_Ldayby
  show fin (dseq _ _ [.im (.str (S l)), .un, .un, .un]) = _
  generalize hℓ : ([.im (.str (S l)), .un, .un, .un] : LS) = ℓ0
  have q1 : dtv (d2 fNe (dbi fLen (dcons (dv 0) dnil)) (dk (.int 10))) ℓ0 = some (.ok (!decide ((l.length : Int) = 10)) ℓ0) := by
    rw [← hℓ]; simp [dtv, d2, arg, bindE, dv, dk, dbi, dcons, dnil, peeks, peek, fLen, S_len, hz, fNe, shp_int, eqv_int, beq_dec]
  by_cases h10 : l.length = 10
  · obtain ⟨a, b, c, d, s, e, f, u, g, k, rfl⟩ := ten l h10
    have q4 : dtv (d2 fNe (d2 fIx (dv 0) (dk (.int 4))) (dk (.str "-"))) ℓ0 = some (.ok (!decide (s = 45)) ℓ0) := by
      rw [← hℓ]; simp [dtv, d2, arg, bindE, dv, dk, peek, fIx, S_len, tl_S, at4, fNe, mk1, litM, one_eq]
    have q7 : dtv (d2 fNe (d2 fIx (dv 0) (dk (.int 7))) (dk (.str "-"))) ℓ0 = some (.ok (!decide (u = 45)) ℓ0) := by
      rw [← hℓ]; simp [dtv, d2, arg, bindE, dv, dk, peek, fIx, S_len, tl_S, at7, fNe, mk1, litM, one_eq]
    have q0 : dtv (d2 fNotIn (d2 fIx (dv 0) (dk (.int 0))) (dk (.str "12345678"))) ℓ0 = some (.ok (!decide (49 ≤ a ∧ a ≤ 56)) ℓ0) := by
      rw [← hℓ]; simp [dtv, d2, arg, bindE, dv, dk, peek, fIx, S_len, tl_S, at0, fNotIn, inB, mk1, lit18]
    have T := orB q1 (orB q4 (orB q7 q0))
    have e1 : (!decide (((([a, b, c, d, s, e, f, u, g, k] : List Nat).length : Nat) : Int) = 10) || (!decide (s = 45) || (!decide (u = 45) || !decide (49 ≤ a ∧ a ≤ 56)))) = !decide (s = 45 ∧ u = 45 ∧ (49 ≤ a ∧ a ≤ 56)) := by
      by_cases hs : s = 45 <;> by_cases hu : u = 45 <;> by_cases ha : (49 ≤ a ∧ a ≤ 56) <;> simp [hs, hu, ha]
    rw [e1] at T
    have e0 : dayO [a, b, c, d, s, e, f, u, g, k] = match (if s = 45 ∧ u = 45 ∧ [a, b, c, d, e, f, g, k].all dg = true then some (PySem.NumText.digitsVal [a, b, c, d], PySem.NumText.digitsVal [e, f], PySem.NumText.digitsVal [g, k]) else none) with
        | some (y, m, d) => if (1000 ≤ y ∧ y < 9000 ∧ 1 ≤ m ∧ m ≤ 12) ∧ (1 ≤ d ∧ (d : Int) ≤ lenOf y m) then some (.int (dayN y m d)) else none
        | none => none := rfl
    rw [e0]
    by_cases hd : s = 45 ∧ u = 45 ∧ (49 ≤ a ∧ a ≤ 56)
    · rw [decide_eq_true hd] at T
      refine fs_skip T ?_
      have l1 := lfigures_ok [a, b, c, d] (by simp)
      have l2 := lfigures_ok [49, e, f] (by simp)
      have l3 := lfigures_ok [49, g, k] (by simp)
      refine fs_nx (ℓ1 := [.im (.str (S [a, b, c, d, s, e, f, u, g, k])), .im (.int (figI [a, b, c, d])), .un, .un]) ?_ ?_
      · rw [← hℓ]; simp [dset, dcall, dcons, dnil, arg, dsl, dpt, bindE, dv, dk, peeks, peek, fSl, S_len, ct1, l1, isSc, putW]
      refine fs_nx (ℓ1 := [.im (.str (S [a, b, c, d, s, e, f, u, g, k])), .im (.int (figI [a, b, c, d])), .im (.int (figI [49, e, f] - 100)), .un]) ?_ ?_
      · simp [dset, dcall, dcons, dnil, arg, d2, dsl, dpt, bindE, dv, dk, peeks, peek, fSl, S_len, ct2, fAdd, fSub, S_app, lit1, l2, isSc, putW]
      refine fs_nx (ℓ1 := [.im (.str (S [a, b, c, d, s, e, f, u, g, k])), .im (.int (figI [a, b, c, d])), .im (.int (figI [49, e, f] - 100)), .im (.int (figI [49, g, k] - 100))]) ?_ ?_
      · simp [dset, dcall, dcons, dnil, arg, d2, dsl, dpt, bindE, dv, dk, peeks, peek, fSl, S_len, ct3, fAdd, fSub, S_app, lit1, l3, isSc, putW]
      clear T q1 q4 q7 q0 hℓ e1 e0 l1 l2 l3
      generalize hD : (.im (.str (S [a, b, c, d, s, e, f, u, g, k])) : L) = z0
      have hne4 : ([a, b, c, d] : List Nat).head? ≠ some 48 := by simp; omega
      generalize hY : figI [a, b, c, d] = Y
      generalize hM : figI [49, e, f] - 100 = M
      generalize hX : figI [49, g, k] - 100 = X
      have p1 : dtv (d2 fLt (dv 1) (dk (.int 1000))) [z0, .im (.int Y), .im (.int M), .im (.int X)] = some (.ok (decide (Y < 1000)) [z0, .im (.int Y), .im (.int M), .im (.int X)]) := by simp [dtv, d2, arg, bindE, dv, dk, peek, fLt]
      have p2 : dtv (d2 fLt (dv 2) (dk (.int 1))) [z0, .im (.int Y), .im (.int M), .im (.int X)] = some (.ok (decide (M < 1)) [z0, .im (.int Y), .im (.int M), .im (.int X)]) := by simp [dtv, d2, arg, bindE, dv, dk, peek, fLt]
      have p3 : dtv (d2 fGt (dv 2) (dk (.int 12))) [z0, .im (.int Y), .im (.int M), .im (.int X)] = some (.ok (decide (12 < M)) [z0, .im (.int Y), .im (.int M), .im (.int X)]) := by simp [dtv, d2, arg, bindE, dv, dk, peek, fGt]
      have p4 : dtv (d2 fLt (dv 3) (dk (.int 1))) [z0, .im (.int Y), .im (.int M), .im (.int X)] = some (.ok (decide (X < 1)) [z0, .im (.int Y), .im (.int M), .im (.int X)]) := by simp [dtv, d2, arg, bindE, dv, dk, peek, fLt]
      have or_cut : ∀ {p q : CT} {x : Bool} {ℓ : LS}, p ℓ = some (.ok x ℓ) → x = true → dor p q ℓ = some (.ok true ℓ) := fun {p q x ℓ} hp hx => by
        unfold dor bindT; rw [hp, hx]; rfl
      have or_go : ∀ {p q : CT} {x : Bool} {ℓ : LS} {r : Option (Res Bool)}, p ℓ = some (.ok x ℓ) → x = false → q ℓ = r → dor p q ℓ = r := fun {p q x ℓ r} hp hx hq => by
        unfold dor bindT; rw [hp, hx]; exact hq
      have bad : ∀ (u1 : CS), (Y < 1000 ∨ M < 1 ∨ 12 < M ∨ X < 1) → fin (dseq (dife (dor (dtv (d2 fLt (dv 1) (dk (.int 1000)))) (dor (dtv (d2 fLt (dv 2) (dk (.int 1)))) (dor (dtv (d2 fGt (dv 2) (dk (.int 12)))) (dor (dtv (d2 fLt (dv 3) (dk (.int 1)))) (dtv (d2 fGt (dv 3) (d2 fIx (dcall m_Llengths (dcons (dv 1) dnil)) (d2 fSub (dv 2) (dk (.int 1)))))))))) (dret (dk .none)) dskip) u1 [z0, .im (.int Y), .im (.int M), .im (.int X)]) = okd .none := fun u1 hh => by
        refine fs_ret (ℓ1 := [z0, .im (.int Y), .im (.int M), .im (.int X)]) ?_ (by simp [fin, dret, dk])
        by_cases c1 : Y < 1000
        · exact or_cut p1 (decide_eq_true c1)
        · refine or_go p1 (decide_eq_false c1) ?_
          by_cases c2 : M < 1
          · exact or_cut p2 (decide_eq_true c2)
          · refine or_go p2 (decide_eq_false c2) ?_
            by_cases c3 : 12 < M
            · exact or_cut p3 (decide_eq_true c3)
            · refine or_go p3 (decide_eq_false c3) ?_
              exact or_cut p4 (decide_eq_true (by omega))
      by_cases ha : [a, b, c, d, e, f, g, k].all dg = true
      · rw [if_pos ⟨hd.1, hd.2.1, ha⟩]
        simp only [List.all_cons, List.all_nil, Bool.and_true, Bool.and_eq_true] at ha
        obtain ⟨h1, h2, h3, h4, h5, h6, h7, h8⟩ := ha
        rw [figI_all (by simp [h1, h2, h3, h4]) (by simp) (by simp) hne4] at hY
        rw [figI_all (by simp [h5, h6]; decide) (by simp) (by simp) (by simp)] at hM
        rw [figI_all (by simp [h7, h8]; decide) (by simp) (by simp) (by simp)] at hX
        have g1 := dg_of h1
        have g2 := dg_of h2
        have g3 := dg_of h3
        have g4 := dg_of h4
        have y1 : (1000 : Nat) ≤ PySem.NumText.digitsVal [a, b, c, d] ∧ PySem.NumText.digitsVal [a, b, c, d] < 9000 := by rw [dv4]; omega
        have m1 : M = (PySem.NumText.digitsVal [e, f] : Nat) := by rw [← hM, dv3, dv2]; omega
        have x1 : X = (PySem.NumText.digitsVal [g, k] : Nat) := by rw [← hX, dv3, dv2]; omega
        clear hM hX
        simp only
        generalize hyy : PySem.NumText.digitsVal [a, b, c, d] = yy at *
        generalize hmm : PySem.NumText.digitsVal [e, f] = mm at *
        generalize hxx : PySem.NumText.digitsVal [g, k] = xx at *
        subst hY
        subst m1
        subst x1
        by_cases cb : ((yy : Int) < 1000 ∨ (mm : Int) < 1 ∨ 12 < (mm : Int) ∨ (xx : Int) < 1)
        · rw [if_neg (by omega)]
          exact bad _ cb
        · have hL := llengths_ok (yy : Int)
          have iL : atI ((LenL (yy : Int)).map .int) ((mm : Int) - 1) = some (.int (lenOf yy mm) : D) := by
            obtain ⟨mi, hmi⟩ : ∃ mi : Nat, (mm : Int) = 1 + (mi : Int) := ⟨mm - 1, by omega⟩
            have em : (mm : Int) - 1 = (mi : Int) := by omega
            rw [em, atI_map, LenL_at _ _ (by omega), hmi]; rfl
          have p5 : dtv (d2 fGt (dv 3) (d2 fIx (dcall m_Llengths (dcons (dv 1) dnil)) (d2 fSub (dv 2) (dk (.int 1))))) [z0, .im (.int yy), .im (.int mm), .im (.int xx)] = some (.ok (decide (lenOf yy mm < xx)) [z0, .im (.int yy), .im (.int mm), .im (.int xx)]) := by
            simp [dtv, d2, arg, bindE, dv, dk, peek, dcall, dcons, dnil, peeks, hL, keepWs, keepW, fIx, fSub, iL, fGt]
          have T := orB p1 (orB p2 (orB p3 (orB p4 p5)))
          by_cases c5 : lenOf yy mm < xx
          · have et : (decide ((yy : Int) < 1000) || (decide ((mm : Int) < 1) || (decide (12 < (mm : Int)) || (decide ((xx : Int) < 1) || decide (lenOf yy mm < xx))))) = true := by simp [c5]
            rw [et] at T
            rw [if_neg (by omega)]
            exact fs_ret T (by simp [fin, dret, dk, optD])
          · have et : (decide ((yy : Int) < 1000) || (decide ((mm : Int) < 1) || (decide (12 < (mm : Int)) || (decide ((xx : Int) < 1) || decide (lenOf yy mm < xx))))) = false := by
              simp only [Bool.or_eq_false_iff, decide_eq_false_iff_not]; omega
            rw [et] at T
            rw [if_pos (by omega)]
            refine fs_skip T ?_
            obtain ⟨ya, rfl⟩ : ∃ ya : Nat, yy = 1000 + ya := ⟨yy - 1000, by omega⟩
            obtain ⟨mi, rfl⟩ : ∃ mi : Nat, mm = 1 + mi := ⟨mm - 1, by omega⟩
            obtain ⟨xi, rfl⟩ : ∃ xi : Nat, xx = 1 + xi := ⟨xx - 1, by omega⟩
            have hday := lday_ok ya mi xi (by omega) (by omega)
            have k1 : ((1000 + ya : Nat) : Int) - 1000 = (ya : Int) := by omega
            have k2 : ((1 + mi : Nat) : Int) - 1 = (mi : Int) := by omega
            have k3 : ((1 + xi : Nat) : Int) - 1 = (xi : Int) := by omega
            have r1 : (((1000 + ya : Nat)) : Int) = 1000 + (ya : Int) := by omega
            have r2 : (((1 + mi : Nat)) : Int) = 1 + (mi : Int) := by omega
            have r3 : (((1 + xi : Nat)) : Int) = 1 + (xi : Int) := by omega
            have km : (xi : Int) % lenOf (1000 + (ya : Int)) (1 + (mi : Int)) = xi := by
              rw [r1, r2, r3] at c5
              exact Int.emod_eq_of_lt (by omega) (by omega)
            rw [km] at hday
            rw [r1, r2, r3]
            generalize hℓ1 : ([z0, .im (.int (1000 + (ya : Int))), .im (.int (1 + (mi : Int))), .im (.int (1 + (xi : Int)))] : LS) = ℓ1
            have g1 : d2 fSub (dv 1) (dk (.int 1000)) ℓ1 = some (.ok (.d (.int ya)) ℓ1) := by rw [← r1] at hℓ1; rw [← hℓ1]; exact d2_ok rfl rfl (by simp only [fSub, k1])
            have g2 : d2 fSub (dv 2) (dk (.int 1)) ℓ1 = some (.ok (.d (.int mi)) ℓ1) := by rw [← r2] at hℓ1; rw [← hℓ1]; exact d2_ok rfl rfl (by simp only [fSub, k2])
            have g3 : d2 fSub (dv 3) (dk (.int 1)) ℓ1 = some (.ok (.d (.int xi)) ℓ1) := by rw [← r3] at hℓ1; rw [← hℓ1]; exact d2_ok rfl rfl (by simp only [fSub, k3])
            have cc : dlst (dcons (d2 fSub (dv 1) (dk (.int 1000))) (dcons (d2 fSub (dv 2) (dk (.int 1))) (dcons (d2 fSub (dv 3) (dk (.int 1))) dnil))) ℓ1 = some (.ok (.fr [.int ya, .int mi, .int xi]) ℓ1) := by
              generalize d2 fSub (dv 1) (dk (.int 1000)) = t1 at *
              generalize d2 fSub (dv 2) (dk (.int 1)) = t2 at *
              generalize d2 fSub (dv 3) (dk (.int 1)) = t3 at *
              simp [dlst, dcons, dnil, arg, g1, g2, g3, keepAll, keepWs, keepW, peeks, peek]
            generalize dlst (dcons (d2 fSub (dv 1) (dk (.int 1000))) (dcons (d2 fSub (dv 2) (dk (.int 1))) (dcons (d2 fSub (dv 3) (dk (.int 1))) dnil))) = t0 at *
            simp [fin, dret, d2, dcall, dcons, dnil, arg, bindE, cc, dk, peeks, peek, hday, fIx, atI0, optD, keepWs, keepW, isSc]
      · rw [if_neg (fun z => ha z.2.2)]
        refine bad _ ?_
        have hcase : ([a, b, c, d].all dg = false) ∨ ([49, e, f].all dg = false) ∨ ([49, g, k].all dg = false) := by
          simp only [List.all_cons, List.all_nil, Bool.and_true, Bool.and_eq_true, Bool.and_eq_false_iff] at ha ⊢
          by_cases x1 : dg a = true <;> by_cases x2 : dg b = true <;> by_cases x3 : dg c = true <;> by_cases x4 : dg d = true <;> by_cases x5 : dg e = true <;> by_cases x6 : dg f = true <;> by_cases x7 : dg g = true <;> by_cases x8 : dg k = true <;> simp_all
        rcases hcase with z | z | z
        · rw [figI_bad z] at hY; omega
        · rw [figI_bad z] at hM; omega
        · rw [figI_bad z] at hX; omega
    · rw [decide_eq_false hd] at T
      have : (match (if s = 45 ∧ u = 45 ∧ [a, b, c, d, e, f, g, k].all dg = true then some (PySem.NumText.digitsVal [a, b, c, d], PySem.NumText.digitsVal [e, f], PySem.NumText.digitsVal [g, k]) else none) with
        | some (y, m, d) => if (1000 ≤ y ∧ y < 9000 ∧ 1 ≤ m ∧ m ≤ 12) ∧ (1 ≤ d ∧ (d : Int) ≤ lenOf y m) then some (.int (dayN y m d)) else none
        | none => (none : Option D)) = none := by
        by_cases hc : s = 45 ∧ u = 45 ∧ [a, b, c, d, e, f, g, k].all dg = true
        · rw [if_pos hc]
          simp only
          rw [if_neg]
          intro z
          obtain ⟨hs, hu, ha⟩ := hc
          simp only [List.all_cons, List.all_nil, Bool.and_true, Bool.and_eq_true] at ha
          have g1 := dg_of ha.1
          have g2 := dg_of ha.2.1
          have g3 := dg_of ha.2.2.1
          have g4 := dg_of ha.2.2.2.1
          have z1 := z.1.1
          have z2 := z.1.2.1
          rw [dv4] at z1 z2
          exact hd ⟨hs, hu, by omega⟩
        · rw [if_neg hc]
      rw [this]
      exact fs_ret T (by simp [fin, dret, dk, optD])
  · have e1 : (!decide ((l.length : Int) = 10)) = true := by
      rw [Bool.not_eq_true', decide_eq_false_iff_not]; omega
    rw [e1] at q1
    unfold dayO
    rw [dayv_len l h10]
    refine fs_ret (ℓ1 := ℓ0) ?_ (by simp [fin, dret, dk, optD])
    unfold dor bindT
    rw [q1]
    rfl
end K10

namespace DL
open PySem PySem.Spec PyProof.Rows L2
/-! values, one sign of the text at a time -/
abbrev Vl (t : CE) (ℓ : LS) (d : D) : Prop := t ℓ = some (.ok (.d d) ℓ)
theorem vl_arg {t : CE} {ℓ : LS} {d : D} (h : Vl t ℓ d) : arg t ℓ = some (.ok (.d d) ℓ) := by simp only [arg, h]
theorem vl_v {ℓ : LS} {i : Nat} {d : D} (h : ℓ[i]? = some (.im d)) : Vl (dv i) ℓ d := by simp only [Vl, dv, h]
theorem vl_k {ℓ : LS} {d : D} : Vl (dk d) ℓ d := rfl
theorem vl_2 {f : D → D → Option W} {ta tb : CE} {ℓ : LS} {a b : D} {w : D} (ha : Vl ta ℓ a) (hb : Vl tb ℓ b) (hf : f a b = some (.d w)) : Vl (d2 f ta tb) ℓ w := K10.d2_ok ha hb hf
theorem vl_bi {f : List D → Option W} {t : CE} {ℓ : LS} {a w : D} (h : Vl t ℓ a) (hf : f [a] = some (.d w)) : Vl (dbi f (dcons t dnil)) ℓ w := by
  simp only [Vl, dbi, dcons, dnil, vl_arg h, peeks, peek, hf]
theorem keep1 (a : D) (ℓ : LS) : keepWs [.d a] ℓ = some ℓ := rfl
theorem keep2 (a b : D) (ℓ : LS) : keepWs [.d a, .d b] ℓ = some ℓ := rfl
theorem vl_c1 {m : List D → Option Rt} {t : CE} {ℓ : LS} {a r : D} (h : Vl t ℓ a) (hm : m [a] = okd r) : Vl (dcall m (dcons t dnil)) ℓ r := by
  simp only [Vl, dcall, dcons, dnil, vl_arg h, peeks, peek, hm, okd, keep1, ite_self]
theorem vl_c2 {m : List D → Option Rt} {t u : CE} {ℓ : LS} {a b r : D} (h : Vl t ℓ a) (h2 : Vl u ℓ b) (hm : m [a, b] = okd r) : Vl (dcall m (dcons t (dcons u dnil))) ℓ r := by
  simp only [Vl, dcall, dcons, dnil, vl_arg h, vl_arg h2, peeks, peek, hm, okd, keep2, ite_self]
theorem vl_m1 {f : Str → D → Option W} {t u : CE} {ℓ : LS} {a : Str} {b r : D} (h : Vl t ℓ (.str a)) (h2 : Vl u ℓ b) (hm : f a b = some (.d r)) : Vl (dm1 f t u) ℓ r := by
  simp only [Vl, dm1, bindE, vl_arg h, vl_arg h2, peek, hm]
theorem vl_t2 {t u : CE} {ℓ : LS} {a b : D} (h : Vl t ℓ a) (h2 : Vl u ℓ b) : Vl (dtup (dcons t (dcons u dnil))) ℓ (.tuple [a, b]) := by
  simp [Vl, dtup, dcons, dnil, vl_arg h, vl_arg h2, keepAll, peeks, peek, keepWs, keepW]
theorem vl_t3 {t u v : CE} {ℓ : LS} {a b c : D} (h : Vl t ℓ a) (h2 : Vl u ℓ b) (h3 : Vl v ℓ c) : Vl (dtup (dcons t (dcons u (dcons v dnil)))) ℓ (.tuple [a, b, c]) := by
  simp [Vl, dtup, dcons, dnil, vl_arg h, vl_arg h2, vl_arg h3, keepAll, peeks, peek, keepWs, keepW]
theorem tv {t : CE} {ℓ : LS} {b : Bool} (h : Vl t ℓ (.bool b)) : dtv t ℓ = some (.ok b ℓ) := by simp only [dtv, vl_arg h]
theorem st_set {i : Nat} {t : CE} {ℓ : LS} {d : D} (h : Vl t ℓ d) : dset i t ℓ = some (.nx, ℓ.set i (.im d)) := by simp only [dset, h, putW]
theorem fn_ret {t : CE} {ℓ : LS} {d : D} (h : Vl t ℓ d) : fin (dret t ℓ) = okd d := by simp only [dret, h, fin]
theorem q_not {t : CT} {ℓ : LS} {b : Bool} (h : t ℓ = some (.ok b ℓ)) : dnot t ℓ = some (.ok (!b) ℓ) := by simp only [dnot, bindT, h, dyes]
theorem e_int (a b : Int) : fEq (.int a) (.int b) = some (.d (.bool (decide (a = b)))) := by simp [fEq, K10.shp_int, K10.eqv_int, K10.beq_dec]
theorem e_str (a b : Str) : fEq (.str a) (.str b) = some (.d (.bool (a == b))) := by simp [fEq]
end DL
namespace K10
open PySem PySem.Spec PyProof.Rows L2 DL
/-! ### the parts of a day -/
theorem year_loop (d y : Int) (x3 x4 : L) (hlo : ahd y ≤ d) (hhi : d < ahd (y + 1)) : ∀ (n : Nat) (y0 : Int), y = y0 + (n : Int) →
    dwhile (dtv (d2 fLe (dcall m_aheadof (dcons (d2 fAdd (dv 1) (dk (.int 1))) dnil)) (dv 0))) (dset 1 (d2 fAdd (dv 1) (dk (.int 1)))) [.im (.int d), .im (.int y0), x3, x4] = some (.nx, [.im (.int d), .im (.int y), x3, x4])
  | 0, y0, h => by
    have : y0 = y := by omega
    subst this
    have h1 : Vl (d2 fAdd (dv 1) (dk (.int 1))) [.im (.int d), .im (.int y0), x3, x4] (.int (y0 + 1)) := vl_2 (vl_v rfl) vl_k rfl
    have h2 := vl_2 (f := fLe) (vl_c1 h1 (aheadof_ok (y0 + 1))) (vl_v (i := 0) rfl) (w := .bool (decide (ahd (y0 + 1) ≤ d))) rfl
    rw [decide_eq_false (by omega)] at h2
    exact dwhile_stop (tv h2)
  | n + 1, y0, h => by
    have h1 : Vl (d2 fAdd (dv 1) (dk (.int 1))) [.im (.int d), .im (.int y0), x3, x4] (.int (y0 + 1)) := vl_2 (vl_v rfl) vl_k rfl
    have h2 := vl_2 (f := fLe) (vl_c1 h1 (aheadof_ok (y0 + 1))) (vl_v (i := 0) rfl) (w := .bool (decide (ahd (y0 + 1) ≤ d))) rfl
    have hm := ahd_mono (x := y0 + 1) (y := y) (by omega)
    rw [decide_eq_true (by omega)] at h2
    exact dwhile_go (tv h2) (st_set h1) (year_loop d y x3 x4 hlo hhi n (y0 + 1) (by omega))
theorem rgN_succ (k : Int) (n : Nat) : rgN k (n + 1) = k :: rgN (k + 1) n := by
  unfold rgN
  rw [List.range_succ_eq_map, List.map_cons, List.map_map]
  congr 1
  · simp
  · apply List.map_congr_left
    intro a _
    simp only [Function.comp]
    omega
theorem month_loop (d y x : Int) (hx : 0 ≤ x) : ∀ (n : Nat) (k : Int), x < lenOf y (k + n) →
    dwhile (dtv (d2 fGe (dv 2) (dcall m_lengthof (dcons (dv 1) (dcons (dv 3) dnil))))) (dseq (dset 2 (d2 fSub (dv 2) (dcall m_lengthof (dcons (dv 1) (dcons (dv 3) dnil))))) (dset 3 (d2 fAdd (dv 3) (dk (.int 1))))) [.im (.int d), .im (.int y), .im (.int (sumOf y (rgN k n) + x)), .im (.int k)] = some (.nx, [.im (.int d), .im (.int y), .im (.int x), .im (.int (k + n))])
  | 0, k, h => by
    have e : sumOf y (rgN k 0) + x = x := by simp [sumOf, rgN]
    rw [e]
    have e2 : k + ((0 : Nat) : Int) = k := by omega
    rw [e2] at h ⊢
    have hl : Vl (dcall m_lengthof (dcons (dv 1) (dcons (dv 3) dnil))) [.im (.int d), .im (.int y), .im (.int x), .im (.int k)] (.int (lenOf y k)) := vl_c2 (vl_v rfl) (vl_v rfl) (lengthof_ok y k)
    have h2 := vl_2 (f := fGe) (vl_v (i := 2) rfl) hl (w := .bool (decide (lenOf y k ≤ x))) rfl
    rw [decide_eq_false (by omega)] at h2
    exact dwhile_stop (tv h2)
  | n + 1, k, h => by
    have e : sumOf y (rgN k (n + 1)) = lenOf y k + sumOf y (rgN (k + 1) n) := by rw [rgN_succ]; simp [sumOf]
    have hnn : 0 ≤ sumOf y (rgN (k + 1) n) := by
      have : ∀ (ks : List Int), 0 ≤ sumOf y ks := fun ks => by
        induction ks with
        | nil => simp [sumOf]
        | cons c ks ih => have := lenOf_pos y c; simp [sumOf] at ih ⊢; omega
      exact this _
    rw [e]
    have hl : ∀ z, Vl (dcall m_lengthof (dcons (dv 1) (dcons (dv 3) dnil))) [.im (.int d), .im (.int y), .im (.int z), .im (.int k)] (.int (lenOf y k)) := fun z => vl_c2 (vl_v rfl) (vl_v rfl) (lengthof_ok y k)
    have h2 := vl_2 (f := fGe) (vl_v (i := 2) rfl) (hl (lenOf y k + sumOf y (rgN (k + 1) n) + x)) (w := .bool (decide (lenOf y k ≤ lenOf y k + sumOf y (rgN (k + 1) n) + x))) rfl
    rw [decide_eq_true (by omega)] at h2
    have h3 := vl_2 (f := fSub) (vl_v (i := 2) rfl) (hl (lenOf y k + sumOf y (rgN (k + 1) n) + x)) (w := .int (lenOf y k + sumOf y (rgN (k + 1) n) + x - lenOf y k)) rfl
    have e3 : lenOf y k + sumOf y (rgN (k + 1) n) + x - lenOf y k = sumOf y (rgN (k + 1) n) + x := by omega
    rw [e3] at h3
    have e4 : k + ((n + 1 : Nat) : Int) = k + 1 + (n : Int) := by omega
    rw [e4] at h ⊢
    refine dwhile_go (tv h2) (dseq_nx (st_set h3) (st_set (vl_2 (vl_v rfl) vl_k rfl))) ?_
    exact month_loop d y x hx n (k + 1) h
theorem partsof_ok (y m d : Int) (hy : 1 ≤ y) (hm : 1 ≤ m ∧ m ≤ 12) (hd : 1 ≤ d ∧ d ≤ lenOf y m) : m_partsof [.int (dayN y m d)] = okd (.tuple [.int y, .int m, .int d]) := by
  have hb := dayN_bound y m d hm hd
  have ht : dayN y m d = ahd y + (sumOf y (rgN 1 (m - 1).toNat) + (d - 1)) := by unfold dayN; omega
  generalize hN : dayN y m d = N at *
  have h0 : 0 ≤ N := by
    have h1 := ahd_mono (x := 1) (y := y) hy
    have : ahd 1 = 0 := by decide
    omega
  have hq : N / 366 + 1 ≤ y := by
    by_cases c : N / 366 + 1 ≤ y
    · exact c
    · have h1 := ahd_mono (x := y + 1) (y := N / 366 + 1) (by omega)
      have h2 : ahd (N / 366 + 1) ≤ N := by unfold ahd; omega
      omega
  unfold m_partsof runD t_partsof
  show fin (dseq _ _ [.im (.int N), .un, .un, .un]) = _
  have e366 : fDiv (.int N) (.int 366) = some (.d (.int (N / 366))) := by
    have := fd N 366 (by decide)
    simp [fDiv, divOk, this]
  refine fs_nx (st_set (vl_2 (vl_2 (vl_v rfl) vl_k e366) vl_k rfl)) ?_
  refine fs_nx (year_loop N y _ _ hb.1 hb.2 (y - (N / 366 + 1)).toNat (N / 366 + 1) (by omega)) ?_
  refine fs_nx (st_set (vl_2 (vl_v rfl) (vl_c1 (vl_v (i := 1) rfl) (aheadof_ok y)) rfl)) ?_
  have e1 : N - ahd y = sumOf y (rgN 1 (m - 1).toNat) + (d - 1) := by omega
  rw [e1]
  refine fs_nx (st_set vl_k) ?_
  have e2 : (1 : Int) + ((m - 1).toNat : Int) = m := by omega
  have hl := month_loop N y (d - 1) (by omega) (m - 1).toNat 1 (by rw [e2]; omega)
  rw [e2] at hl
  refine fs_nx hl ?_
  have e3 : d - 1 + 1 = d := by omega
  have h9 : Vl (d2 fAdd (dv 2) (dk (.int 1))) [.im (.int N), .im (.int y), .im (.int (d - 1)), .im (.int m)] (.int d) := vl_2 (vl_v rfl) vl_k (by simp only [fAdd, e3])
  exact fn_ret (vl_t3 (vl_v rfl) (vl_v rfl) h9)
theorem p10k : (10000 : Nat) < 2 ^ 200 := by decide
theorem zf4 {n : Nat} (h0 : 1000 ≤ n) (h : n < 10000) : Txt.zfill (S (TL.numL n)) 4 = S [48 + n / 1000, 48 + n / 100 % 10, 48 + n / 10 % 10, 48 + n % 10] := by
  rw [num4 h0 h]
  unfold Txt.zfill
  rw [S_len, if_pos (by simp)]
theorem dashV {ℓ : LS} : Vl (dk (.str (Str.ofString "-"))) ℓ (.str (S [45])) := by rw [litM]; rfl
theorem showday_ok (y m d : Nat) (hy : 1000 ≤ y ∧ y < 9000) (hm : 1 ≤ m ∧ m ≤ 12) (hd : 1 ≤ d ∧ (d : Int) ≤ lenOf y m) : m_showday [.int (dayN y m d)] = okd (.str (S (dtx y m d))) := by
  have hp := partsof_ok y m d (by omega) (by omega) (by omega)
  have hb := lenOf_pos y m
  have hk := p10k
  unfold m_showday runD t_showday
  show fin (dseq _ _ [.im (.int (dayN y m d)), .un, .un, .un]) = _
  refine fs_nx (ℓ1 := [.im (.int (dayN y m d)), .im (.int y), .im (.int m), .im (.int d)]) ?_ ?_
  · have h1 : Vl (dcall m_partsof (dcons (dv 0) dnil)) [.im (.int (dayN y m d)), .un, .un, .un] (.tuple [.int y, .int m, .int d]) := vl_c1 (vl_v rfl) hp
    simp only [dasg, vl_arg h1, keepW]
    simp [bindP, bindPs]
  generalize hℓ : ([.im (.int (dayN y m d)), .im (.int y), .im (.int m), .im (.int d)] : LS) = ℓ0
  have v1 : Vl (dm1 fZfill (dbi fStr (dcons (dv 1) dnil)) (dk (.int 4))) ℓ0 (.str (S [48 + y / 1000, 48 + y / 100 % 10, 48 + y / 10 % 10, 48 + y % 10])) := vl_m1 (vl_bi (vl_v (d := .int y) (by rw [← hℓ]; rfl)) (fstr_nat y (by omega))) vl_k (by simp [fZfill, zf4 hy.1 (show y < 10000 by omega)])
  have v2 : Vl (dm1 fZfill (dbi fStr (dcons (dv 2) dnil)) (dk (.int 2))) ℓ0 (.str (S [48 + m / 10, 48 + m % 10])) := vl_m1 (vl_bi (vl_v (d := .int m) (by rw [← hℓ]; rfl)) (fstr_nat m (by omega))) vl_k (by simp [fZfill, num2 (n := m) (by omega)])
  have v3 : Vl (dm1 fZfill (dbi fStr (dcons (dv 3) dnil)) (dk (.int 2))) ℓ0 (.str (S [48 + d / 10, 48 + d % 10])) := vl_m1 (vl_bi (vl_v (d := .int d) (by rw [← hℓ]; rfl)) (fstr_nat d (by omega))) vl_k (by simp [fZfill, num2 (n := d) (by omega)])
  exact fn_ret (vl_2 (vl_2 (vl_2 (vl_2 v1 dashV (fadd_S (by simp))) v2 (fadd_S (by simp))) dashV (fadd_S (by simp))) v3 (fadd_S (by simp)))
/-! ### texts of numbers -/
def intL (t : Int) : List Nat := if t < 0 then 45 :: TL.numL t.natAbs else TL.numL t.natAbs
theorem str_int (t : Int) : Str.ofString (toString t) = S (intL t) := by
  unfold intL
  cases t with
  | ofNat n =>
    rw [show (if Int.ofNat n < 0 then 45 :: TL.numL (Int.ofNat n).natAbs else TL.numL (Int.ofNat n).natAbs) = TL.numL n from if_neg (Int.not_lt.mpr (Int.natCast_nonneg n))]
    exact str_nat n
  | negSucc n =>
    rw [if_pos (Int.negSucc_lt_zero n)]
    have e : toString (Int.negSucc n) = "-" ++ toString (((n + 1 : Nat)) : Int) := rfl
    have h := str_nat (n + 1)
    rw [lit, S_inj] at h
    rw [e, lit, String.toList_append, List.map_append, h]
    rfl
theorem fstr_int (t : Int) (h : t.natAbs < 2 ^ 200) : fStr [.int t] = some (.d (.str (S (intL t)))) := by
  show (if t.natAbs.log2 < 1920 then some (W.d (.str (Str.ofString (toString t)))) else none) = _
  rw [if_pos (log_small h), str_int]
theorem intL_len {t : Int} (h : t.natAbs < 10 ^ 18) : (intL t).length ≤ 19 := by
  have := TL.numL_len (n := t.natAbs) (k := 18) (by decide) h
  unfold intL
  split
  · rw [List.length_cons]; omega
  · omega
def numT (t : Int) (b : Nat) : List Nat := intL t ++ (if b = 1 then [] else 47 :: TL.numL b)
theorem p18 : (10 : Nat) ^ 18 < 2 ^ 200 := by decide
theorem slashV {ℓ : LS} : Vl (dk (.str (Str.ofString "/"))) ℓ (.str (S [47])) := by rw [litSl]; rfl
theorem numL60 {b : Nat} (h : b ≤ 60) : (TL.numL b).length ≤ 2 := TL.numL_len (by decide) (by omega)
theorem shownumber_ok (t : Int) (b : Nat) (ht : t.natAbs < 10 ^ 18) (hb : b ≤ 60) : m_shownumber [.tuple [.int t, .int b]] = okd (.str (S (numT t b))) := by
  have hk := p18
  have hl := intL_len ht
  have hl2 := numL60 hb
  unfold m_shownumber runD t_shownumber numT
  show fin (dseq _ _ [.im (.tuple [.int t, .int b])]) = _
  have vt : Vl (dbi fStr (dcons (d2 fIx (dv 0) (dk (.int 0))) dnil)) [.im (.tuple [.int t, .int b])] (.str (S (intL t))) := vl_bi (vl_2 (vl_v rfl) vl_k rfl) (fstr_int t (by omega))
  have vb : Vl (dbi fStr (dcons (d2 fIx (dv 0) (dk (.int 1))) dnil)) [.im (.tuple [.int t, .int b])] (.str (S (TL.numL b))) := vl_bi (vl_2 (vl_v rfl) vl_k rfl) (fstr_nat b (by have := p10k; omega))
  have q := vl_2 (f := fEq) (vl_2 (f := fIx) (vl_v (ℓ := [.im (.tuple [.int t, .int b])]) (i := 0) rfl) (vl_k (d := .int 1)) (w := .int b) rfl) (vl_k (d := .int 1)) (e_int _ _)
  by_cases h1 : b = 1
  · rw [decide_eq_true (by omega)] at q
    rw [if_pos h1, List.append_nil]
    exact fs_ret (tv q) (fn_ret vt)
  · rw [decide_eq_false (by omega)] at q
    rw [if_neg h1]
    refine fs_skip (tv q) ?_
    have := vl_2 (vl_2 vt slashV (fadd_S (by simp; omega))) vb (fadd_S (by simp; omega))
    rw [List.append_assoc] at this
    exact fn_ret this
/-! a number's text, read -/
theorem numL_head {n : Nat} (h : 0 < n) : (TL.numL n).head? ≠ some 48 := by
  induction n using Nat.strongRecOn with
  | _ n ih =>
    by_cases h1 : n < 10
    · rw [TL.numL_lt h1]; simp; omega
    · rw [TL.numL_step (by omega)]
      have := ih (n / 10) (by omega) (by omega)
      cases hc : TL.numL (n / 10) with
      | nil => exact absurd hc (TL.numL_ne _)
      | cons c cs => rw [hc] at this; simpa using this
theorem all_dg {l : List Nat} (h : PySem.NumText.AllDigits l) : l.all dg = true := by
  rw [List.all_eq_true]
  intro c hc
  have := h c hc
  simpa [dg] using this
theorem figs_num {n : Nat} (h : n < 10 ^ 60) : figs (TL.numL n) = some n := by
  have hl := TL.numL_len (n := n) (k := 60) (by decide) h
  unfold figs
  rw [if_neg (TL.numL_ne n), if_neg (by omega), if_neg (by rw [all_dg (TL.numL_digits n)]; simp), TL.numL_val]
  rw [if_neg]
  rintro ⟨h1, h2⟩
  by_cases h0 : n = 0
  · subst h0
    have : TL.numL 0 = [48] := TL.numL_lt (by decide)
    rw [this] at h1; simp at h1
  · exact numL_head (by omega) h2
theorem intL_free (t : Int) : 47 ∉ intL t := by
  unfold intL
  have := TL.numL_free (n := t.natAbs) (s := 47) (.inl (by decide))
  split
  · simp [this]
  · exact this
theorem tops_int {t : Int} (h : t.natAbs < 10 ^ 18) : tops (intL t) = some t := by
  have hf := figs_num (n := t.natAbs) (Nat.lt_trans h (by decide))
  unfold tops intL
  by_cases c : t < 0
  · rw [if_pos c]
    simp only [List.head?_cons, if_true, List.tail_cons, hf]
    rw [if_neg (by omega)]
    congr 1
    omega
  · rw [if_neg c]
    have h2 : (TL.numL t.natAbs).head? ≠ some 45 := fun z => by
      have := TL.numL_free (n := t.natAbs) (s := 45) (.inl (by decide))
      exact this (List.mem_of_mem_head? z)
    rw [if_neg h2, hf]
    show some ((t.natAbs : Nat) : Int) = some t
    congr 1
    omega
theorem tw_free {p q : List Nat} (h : 47 ∉ p) : (p ++ q).takeWhile (· != 47) = p ++ q.takeWhile (· != 47) ∧ (p ++ q).dropWhile (· != 47) = q.dropWhile (· != 47) := by
  induction p with
  | nil => exact ⟨rfl, rfl⟩
  | cons c p ih =>
    have hc : c ≠ 47 := fun z => h (by rw [z]; exact List.mem_cons_self)
    have hb : (c != 47) = true := by simpa using hc
    obtain ⟨i1, i2⟩ := ih (fun z => h (List.mem_cons_of_mem _ z))
    simp only [List.cons_append, List.takeWhile_cons, List.dropWhile_cons, hb, if_true, i1, i2, and_self]
theorem fore_num (t : Int) (b : Nat) : fore (numT t b) = intL t := by
  unfold fore numT
  rw [(tw_free (intL_free t)).1]
  split <;> simp
theorem aft_num (t : Int) (b : Nat) : aft (numT t b) = if b = 1 then none else some (TL.numL b) := by
  unfold aft numT
  rw [(tw_free (intL_free t)).2]
  by_cases h : b = 1
  · rw [if_pos h, if_pos h]; rfl
  · rw [if_neg h, if_neg h]; rfl
theorem told_num {t : Int} {b : Nat} (ht : t.natAbs < 10 ^ 18) (hb : 0 < b ∧ b ≤ 60) (hg : Int.gcd t b = 1) : toldN (numT t b) = some (t, b) := by
  unfold toldN rdN
  rw [fore_num, tops_int ht, aft_num]
  have h18 : (1000000000000000000 : Nat) = 10 ^ 18 := by decide
  by_cases h : b = 1
  · simp only [if_pos h]
    rw [h18, if_pos ⟨ht, by omega⟩, h]
  · have hf := figs_num (n := b) (by have : (60 : Nat) < 10 ^ 60 := by decide
                                     omega)
    simp only [if_neg h, hf]
    rw [if_neg (by rintro (z | z)
                   · omega
                   · exact z hg)]
    simp only
    rw [h18, if_pos ⟨ht, by omega⟩]
theorem numT_dash (t : Int) (b : Nat) : numT t b ≠ [45] := by
  unfold numT intL
  intro h
  by_cases c : t < 0
  · rw [if_pos c] at h
    simp at h
    exact TL.numL_ne _ h.1
  · rw [if_neg c] at h
    have : 45 ∈ TL.numL t.natAbs ++ (if b = 1 then [] else 47 :: TL.numL b) := by rw [h]; exact List.mem_cons_self
    rcases List.mem_append.mp this with z | z
    · exact TL.numL_free (.inl (by decide)) z
    · by_cases hb : b = 1
      · rw [if_pos hb] at z; cases z
      · rw [if_neg hb] at z
        rcases List.mem_cons.mp z with z | z
        · cases z
        · exact TL.numL_free (.inl (by decide)) z
theorem numT_len {t : Int} {b : Nat} (ht : t.natAbs < 10 ^ 18) (hb : b ≤ 60) : (numT t b).length ≤ 22 := by
  have h1 := intL_len ht
  have h2 := numL60 hb
  unfold numT
  rw [List.length_append]
  split
  · simp; omega
  · simp; omega
/-! ### a good number -/
theorem lnumber_ok (x0 x1 x2 x3 x4 : Nat) (h0 : x0 < 2) (h1 : x1 < 4) (h2 : x2 < 1000000000) (h3 : x3 < 1000000000) (h4 : x4 < 90) :
    ∃ (t : Int) (b : Nat), m_Lnumber [.list [.int x0, .int x1, .int x2, .int x3, .int x4]] = okd (.tuple [.int t, .int b]) ∧ t.natAbs < 10 ^ 18 ∧ (0 < b ∧ b ≤ 60) ∧ Int.gcd t b = 1 := by
  have i0 : fIx (.list [.int x0, .int x1, .int x2, .int x3, .int x4]) (.int 0) = some (.d (.int x0)) := rfl
  have i1 : fIx (.list [.int x0, .int x1, .int x2, .int x3, .int x4]) (.int 1) = some (.d (.int x1)) := rfl
  have i2 : fIx (.list [.int x0, .int x1, .int x2, .int x3, .int x4]) (.int 2) = some (.d (.int x2)) := rfl
  have i3 : fIx (.list [.int x0, .int x1, .int x2, .int x3, .int x4]) (.int 3) = some (.d (.int x3)) := rfl
  have i4 : fIx (.list [.int x0, .int x1, .int x2, .int x3, .int x4]) (.int 4) = some (.d (.int x4)) := rfl
  generalize hdl : (.list [.int x0, .int x1, .int x2, .int x3, .int x4] : D) = dl at *
  have top : ∃ T : Nat, T < 10 ^ 18 ∧ atI ([.int (x2 % 10 : Nat), .int (x2 % 1000 : Nat), .int x2, .int (x2 * 1000000000 + x3 : Nat)] : List D) (x1 : Int) = some (.int T) := by
    rcases x1 with _|_|_|_|x1
    · exact ⟨x2 % 10, by omega, rfl⟩
    · exact ⟨x2 % 1000, by omega, rfl⟩
    · exact ⟨x2, by omega, rfl⟩
    · exact ⟨x2 * 1000000000 + x3, by omega, rfl⟩
    · omega
  obtain ⟨T, hT, eT⟩ := top
  have bot : ∃ Bt : Nat, (0 < Bt ∧ Bt ≤ 60) ∧ atI ([.int (x4 + 1 : Nat), .int 1] : List D) (if 60 ≤ (x4 : Int) then 1 else 0) = some (.int Bt) := by
    by_cases c : 60 ≤ (x4 : Int)
    · rw [if_pos c]; exact ⟨1, by omega, rfl⟩
    · rw [if_neg c]; exact ⟨x4 + 1, by omega, rfl⟩
  obtain ⟨Bt, hB, eB⟩ := bot
  unfold m_Lnumber runD t_Lnumber
  show ∃ t b, fin (dseq _ _ [.im dl, .un, .un, .un]) = _ ∧ _
  have ix : ∀ {ℓ : LS} (k : Int) (w : D), ℓ[0]? = some (.im dl) → fIx dl (.int k) = some (.d w) → Vl (d2 fIx (dv 0) (dk (.int k))) ℓ w := fun k w h hw => vl_2 (vl_v h) vl_k hw
  have s1 : dset 1 (d2 fIx (dlst (dcons (d2 fMod (d2 fIx (dv 0) (dk (.int 2))) (dk (.int 10))) (dcons (d2 fMod (d2 fIx (dv 0) (dk (.int 2))) (dk (.int 1000))) (dcons (d2 fIx (dv 0) (dk (.int 2))) (dcons (d2 fAdd (d2 fMul (d2 fIx (dv 0) (dk (.int 2))) (d2 fPow (dk (.int 10)) (dk (.int 9)))) (d2 fIx (dv 0) (dk (.int 3)))) dnil))))) (d2 fIx (dv 0) (dk (.int 1)))) [.im dl, .un, .un, .un] = some (.nx, [.im dl, .im (.int T), .un, .un]) := by
    have u1 : Vl (d2 fMod (d2 fIx (dv 0) (dk (.int 2))) (dk (.int 10))) [.im dl, .un, .un, .un] (.int (x2 % 10 : Nat)) := vl_2 (ix 2 _ rfl i2) vl_k (by have := fm x2 10 (by decide); simp [fMod, this])
    have u2 : Vl (d2 fMod (d2 fIx (dv 0) (dk (.int 2))) (dk (.int 1000))) [.im dl, .un, .un, .un] (.int (x2 % 1000 : Nat)) := vl_2 (ix 2 _ rfl i2) vl_k (by have := fm x2 1000 (by decide); simp [fMod, this])
    have u3 : Vl (d2 fIx (dv 0) (dk (.int 2))) [.im dl, .un, .un, .un] (.int x2) := ix 2 _ rfl i2
    have u4 : Vl (d2 fAdd (d2 fMul (d2 fIx (dv 0) (dk (.int 2))) (d2 fPow (dk (.int 10)) (dk (.int 9)))) (d2 fIx (dv 0) (dk (.int 3)))) [.im dl, .un, .un, .un] (.int (x2 * 1000000000 + x3 : Nat)) :=
      vl_2 (vl_2 u3 (vl_2 (f := fPow) (w := .int 1000000000) vl_k vl_k (by simp [fPow])) (w := .int (x2 * 1000000000)) (by simp [fMul, mulOk])) (ix 3 _ rfl i3) (by simp [fAdd])
    have u5 : Vl (d2 fIx (dv 0) (dk (.int 1))) [.im dl, .un, .un, .un] (.int x1) := ix 1 _ rfl i1
    generalize d2 fMod (d2 fIx (dv 0) (dk (.int 2))) (dk (.int 10)) = t1 at *
    generalize d2 fMod (d2 fIx (dv 0) (dk (.int 2))) (dk (.int 1000)) = t2 at *
    generalize d2 fAdd (d2 fMul (d2 fIx (dv 0) (dk (.int 2))) (d2 fPow (dk (.int 10)) (dk (.int 9)))) (d2 fIx (dv 0) (dk (.int 3))) = t4 at *
    generalize d2 fIx (dv 0) (dk (.int 2)) = t3 at *
    generalize d2 fIx (dv 0) (dk (.int 1)) = t5 at *
    generalize hℓ : ([.im dl, .un, .un, .un] : LS) = ℓ0 at *
    have w : dlst (dcons t1 (dcons t2 (dcons t3 (dcons t4 dnil)))) ℓ0 = some (.ok (.fr [.int (x2 % 10 : Nat), .int (x2 % 1000 : Nat), .int x2, .int (x2 * 1000000000 + x3 : Nat)]) ℓ0) := by
      simp only [dlst, dcons, dnil, vl_arg u1, vl_arg u2, vl_arg u3, vl_arg u4, keepAll, peeks, peek, keepWs, keepW]
      rfl
    simp only [dset, d2, arg, bindE, w, u5, peek, fIx, eT, Option.map, putW]
    rw [← hℓ]; rfl
  have s2 : dset 2 (d2 fIx (dlst (dcons (d2 fAdd (d2 fIx (dv 0) (dk (.int 4))) (dk (.int 1))) (dcons (dk (.int 1)) dnil))) (dbi fInt (dcons (d2 fGe (d2 fIx (dv 0) (dk (.int 4))) (dk (.int 60))) dnil))) [.im dl, .im (.int T), .un, .un] = some (.nx, [.im dl, .im (.int T), .im (.int Bt), .un]) := by
    have u1 : Vl (d2 fAdd (d2 fIx (dv 0) (dk (.int 4))) (dk (.int 1))) [.im dl, .im (.int T), .un, .un] (.int (x4 + 1 : Nat)) := vl_2 (ix 4 _ rfl i4) vl_k rfl
    have u2 : Vl (d2 fGe (d2 fIx (dv 0) (dk (.int 4))) (dk (.int 60))) [.im dl, .im (.int T), .un, .un] (.bool (decide (60 ≤ (x4 : Int)))) := vl_2 (ix 4 _ rfl i4) vl_k rfl
    have u3 := vl_bi (f := fInt) (w := .int (if 60 ≤ (x4 : Int) then 1 else 0)) u2 (by by_cases c : 60 ≤ (x4 : Int) <;> simp [fInt, c])
    generalize dbi fInt (dcons (d2 fGe (d2 fIx (dv 0) (dk (.int 4))) (dk (.int 60))) dnil) = t3 at *
    generalize d2 fAdd (d2 fIx (dv 0) (dk (.int 4))) (dk (.int 1)) = t1 at *
    generalize hℓ : ([.im dl, .im (.int T), .un, .un] : LS) = ℓ0 at *
    have w : dlst (dcons t1 (dcons (dk (.int 1)) dnil)) ℓ0 = some (.ok (.fr [.int (x4 + 1 : Nat), .int 1]) ℓ0) := by
      simp only [dlst, dcons, dnil, vl_arg u1, vl_arg (vl_k (ℓ := ℓ0) (d := .int 1)), keepAll, peeks, peek, keepWs, keepW]
      rfl
    simp only [dset, d2, arg, bindE, w, u3, peek, fIx, eB, Option.map, putW]
    rw [← hℓ]; rfl
  have hgp : 0 < Nat.gcd T Bt := Nat.gcd_pos_of_pos_right _ hB.1
  have hgl : Nat.gcd T Bt ≤ Bt := Nat.gcd_le_right _ hB.1
  obtain ⟨T', hT'⟩ := Nat.gcd_dvd_left T Bt
  obtain ⟨B', hB'⟩ := Nat.gcd_dvd_right T Bt
  have hco : Nat.gcd T' B' = 1 := by
    have := Nat.gcd_mul_left (Nat.gcd T Bt) T' B'
    rw [← hT', ← hB'] at this
    exact Nat.eq_of_mul_eq_mul_left hgp (by omega)
  have hgi : Int.gcd (T : Int) (Bt : Int) = Nat.gcd T Bt := rfl
  have s3 : Vl (dcall m_Ldivisor (dcons (dv 1) (dcons (dv 2) dnil))) [.im dl, .im (.int T), .im (.int Bt), .un] (.int (Nat.gcd T Bt : Nat)) := vl_c2 (vl_v rfl) (vl_v rfl) (ldivisor_ok T Bt (by omega))
  generalize Nat.gcd T Bt = g at *
  have hT0 : T' ≤ T := by rw [hT']; exact Nat.le_mul_of_pos_left _ hgp
  have hB0 : B' ≤ Bt := by rw [hB']; exact Nat.le_mul_of_pos_left _ hgp
  have hB1 : 0 < B' := by
    rcases Nat.eq_zero_or_pos B' with z | z
    · rw [z] at hB'; omega
    · exact z
  refine ⟨(1 - 2 * (x0 : Int)) * T', B', ?_, ?_, ⟨hB1, by omega⟩, ?_⟩
  · refine fs_nx s1 (fs_nx s2 (fs_nx (st_set s3) ?_))
    have gI : (g : Int) ≠ 0 := by omega
    have dO : divOk (g : Int) = true := by unfold divOk; simp; omega
    have eT : ((1 - 2 * (x0 : Int)) * T).fdiv g = (1 - 2 * (x0 : Int)) * T' := by
      rw [fd _ _ (by omega), hT', Int.natCast_mul, ← Int.mul_assoc, Int.mul_comm (1 - 2 * (x0 : Int)) (g : Int), Int.mul_assoc, Int.mul_ediv_cancel_left _ gI]
    have eBB : (Bt : Int).fdiv g = B' := by
      rw [fd _ _ (by omega), hB', Int.natCast_mul, Int.mul_ediv_cancel_left _ gI]
    have mo1 : mulOk 2 (x0 : Int) = true := rfl
    have mo2 : mulOk (1 - 2 * (x0 : Int)) (T : Int) = true := by unfold mulOk; simp; omega
    have u1 : Vl (d2 fSub (dk (.int 1)) (d2 fMul (dk (.int 2)) (d2 fIx (dv 0) (dk (.int 0))))) [.im dl, .im (.int T), .im (.int Bt), .im (.int g)] (.int (1 - 2 * (x0 : Int))) := vl_2 vl_k (vl_2 vl_k (ix 0 _ rfl i0) (w := .int (2 * (x0 : Int))) (by simp only [fMul, mo1, if_true])) rfl
    have u2 : Vl (d2 fDiv (d2 fMul (d2 fSub (dk (.int 1)) (d2 fMul (dk (.int 2)) (d2 fIx (dv 0) (dk (.int 0))))) (dv 1)) (dv 3)) [.im dl, .im (.int T), .im (.int Bt), .im (.int g)] (.int ((1 - 2 * (x0 : Int)) * T')) := by
      refine vl_2 (vl_2 u1 (vl_v rfl) (w := .int ((1 - 2 * (x0 : Int)) * T)) (by simp only [fMul, mo2, if_true])) (vl_v rfl) ?_
      simp only [fDiv, dO, if_true, eT]
    have u3 : Vl (d2 fDiv (dv 2) (dv 3)) [.im dl, .im (.int T), .im (.int Bt), .im (.int g)] (.int B') := vl_2 (vl_v rfl) (vl_v rfl) (by simp only [fDiv, dO, if_true, eBB])
    exact fn_ret (vl_t2 u2 u3)
  · have : ((1 - 2 * (x0 : Int)) * T').natAbs = T' := by
      rw [Int.natAbs_mul]
      have : (1 - 2 * (x0 : Int)).natAbs = 1 := by omega
      rw [this]; simp
    omega
  · have : ((1 - 2 * (x0 : Int)) * T').natAbs = T' := by
      rw [Int.natAbs_mul]
      have : (1 - 2 * (x0 : Int)).natAbs = 1 := by omega
      rw [this]; simp
    show Nat.gcd ((1 - 2 * (x0 : Int)) * T').natAbs (B' : Int).natAbs = 1
    rw [this]; exact hco
end K10

namespace DL
open PySem PySem.Spec PyProof.Rows L2
def nI (vs : List Nat) : List D := vs.map fun (n : Nat) => PyData.int (n : Int)
theorem nI_len (vs : List Nat) : (nI vs).length = vs.length := by simp [nI]
theorem nI_ix (vs : List Nat) (k v : Nat) (h : vs[k]? = some v) : fIx (.list (nI vs)) (.int (k : Int)) = some (.d (.int v)) := by
  have : atI (nI vs) (k : Int) = some (.int v : D) := atI_nat (by simp [nI, h])
  simp only [fIx, this, Option.map]
theorem vl_ix {vs : List Nat} {ℓ : LS} {t u : CE} {k v : Nat} (h : Vl t ℓ (.list (nI vs))) (hu : Vl u ℓ (.int (k : Int))) (hv : vs[k]? = some v) : Vl (d2 fIx t u) ℓ (.int v) := vl_2 h hu (nI_ix vs k v hv)
theorem fmod_n (a b : Nat) (h : 0 < b) (h2 : b < 1073741824) : fMod (.int a) (.int b) = some (.d (.int (a % b : Nat))) := by
  have e := Int.fmod_eq_emod_of_nonneg (a : Int) (show 0 ≤ (b : Int) by omega)
  have dO : divOk (b : Int) = true := by unfold divOk; simp; omega
  have nz : (b : Int) ≠ 0 := by omega
  simp only [fMod, dO, if_true, e, if_pos nz]
  rfl
theorem vl_sl {t : CE} {ℓ : LS} {i : Nat} {z : D} {lo hi : Option Int} {r : D} {clo chi : Option CE} (h : Vl t ℓ z) (hs : dsl t clo chi ℓ = some (.ok (.d r) ℓ)) : Vl (dsl t clo chi) ℓ r := hs
end DL
namespace K10
open PySem PySem.Spec PyProof.Rows L2 DL
theorem some_at (j : Nat) (h : j < 26) : fIx (.str (Str.ofString "abcdefghijklmnopqrstuvwxyz")) (.int (j : Int)) = some (.d (.str (S [97 + j]))) := by
  have e : (("abcdefghijklmnopqrstuvwxyz" : String).toList.map Char.toNat) = (List.range 26).map (fun k => 97 + k) := by decide
  rw [lit, e]
  have ha : atI ((List.range 26).map (fun k => 97 + k)) (j : Int) = some (97 + j) := atI_nat (by simp [h])
  simp only [fIx, S_len, tl_S, ha, Option.map]
  rfl
theorem join_signs (l : List Nat) : Txt.join (S []) (l.map fun c => S [c]) = S l := by
  rw [TL.join_eq, ← S_tl (Str.join _ _)]
  congr 1
  show TL.tl _ = l
  rw [TL.tl_join]
  have : ∀ l : List Nat, TL.joinL [] (l.map fun c => [c]) = l := fun l => by
    induction l with
    | nil => rfl
    | cons c l ih =>
      cases l with
      | nil => rfl
      | cons d l => show [c] ++ ([] ++ TL.joinL [] ((d :: l).map fun c => [c])) = _; rw [ih]; rfl
  rw [List.map_map]
  exact this l
theorem allS_signs (l : List Nat) : DL.allS (l.map fun c => .str (S [c])) = some (l.map fun c => S [c]) := by
  induction l with
  | nil => rfl
  | cons c l ih => simp [DL.allS, ih]
theorem lword_ok (vs : List Nat) (v0 v1 : Nat) (hl : vs.length = 10) (e0 : vs[0]? = some v0) (e1 : vs[1]? = some v1) (h0 : v0 < 8) (h1 : v1 < 2) :
    ∃ w : List Nat, m_Lword [.list (nI vs)] = okd (.str (S w)) ∧ w.length = 1 + v0 ∧ w.all ltr = true := by
  have mm : ∃ M : Nat, (0 < M ∧ M ≤ 26) ∧ fIx (.list [.int 26, .int 2]) (.int v1) = some (.d (.int (M : Int))) := by
    rcases v1 with _|_|v1
    · exact ⟨26, by omega, rfl⟩
    · exact ⟨2, by omega, rfl⟩
    · omega
  obtain ⟨M, hM, eM⟩ := mm
  generalize hf : (fun (k : Nat) => 97 + (vs[2 + k]?).getD 0 % M) = f
  refine ⟨(List.range (1 + v0)).map f, ?_, by simp, ?_⟩
  · unfold m_Lword runD t_Lword
    show fin (dseq _ _ [.im (.list (nI vs)), .un, .un]) = _
    refine fs_nx (st_set vl_k) ?_
    show fin (dret _ [.im (.list (nI vs)), .im (.str (Str.ofString "abcdefghijklmnopqrstuvwxyz")), .un]) = _
    generalize hg : (fun d : D => match d with | .int k => (.str (S [f k.toNat]) : D) | d => d) = g
    have src : drg1 (d2 fAdd (dk (.int 1)) (d2 fIx (dv 0) (dk (.int 0)))) [.im (.list (nI vs)), .im (.str (Str.ofString "abcdefghijklmnopqrstuvwxyz")), .un] = some (.ok (rgI 0 (1 + v0)) [.im (.list (nI vs)), .im (.str (Str.ofString "abcdefghijklmnopqrstuvwxyz")), .un]) := by
      have h := vl_2 (f := fAdd) (w := .int (1 + (v0 : Int))) (vl_k (d := .int 1)) (vl_2 (vl_v (ℓ := [.im (.list (nI vs)), .im (.str (Str.ofString "abcdefghijklmnopqrstuvwxyz")), .un]) (i := 0) rfl) (vl_k (d := .int 0)) (nI_ix vs 0 v0 e0)) rfl
      have hs : small62 (1 + (v0 : Int)) = true := by unfold small62; simp; omega
      have ht : (1 + (v0 : Int)).toNat = 1 + v0 := by omega
      unfold drg1
      rw [vl_arg h]
      simp only [peek, hs, if_true, ht]
    have body : ∀ d ∈ rgI 0 (1 + v0), arg (d2 fIx (dv 1) (d2 fMod (d2 fIx (dv 0) (d2 fAdd (dk (.int 2)) (dv 2))) (d2 fIx (dlst (dcons (dk (.int 26)) (dcons (dk (.int 2)) dnil))) (d2 fIx (dv 0) (dk (.int 1)))))) (([.im (.list (nI vs)), .im (.str (Str.ofString "abcdefghijklmnopqrstuvwxyz")), .un] : LS).set 2 (.im d)) = some (.ok (.d (g d)) (([.im (.list (nI vs)), .im (.str (Str.ofString "abcdefghijklmnopqrstuvwxyz")), .un] : LS).set 2 (.im d))) := fun d hd => by
      unfold rgI at hd
      rw [List.mem_map] at hd
      obtain ⟨k, hk, rfl⟩ := hd
      rw [List.mem_range] at hk
      have ek : (0 : Int) + (k : Int) = (k : Int) := by omega
      rw [ek]
      have hgk : g (.int (k : Int)) = .str (S [97 + (vs[2 + k]?).getD 0 % M]) := by
        rw [← hg, ← hf]
        simp only [Int.toNat_natCast]
      rw [hgk]
      have hkk : vs[2 + k]? = some ((vs[2 + k]?).getD 0) := by
        rw [List.getElem?_eq_getElem (show 2 + k < vs.length by omega)]; rfl
      generalize (vs[2 + k]?).getD 0 = x at *
      show arg _ [.im (.list (nI vs)), .im (.str (Str.ofString "abcdefghijklmnopqrstuvwxyz")), .im (.int (k : Int))] = _
      have a1 : Vl (d2 fIx (dv 0) (d2 fAdd (dk (.int 2)) (dv 2))) [.im (.list (nI vs)), .im (.str (Str.ofString "abcdefghijklmnopqrstuvwxyz")), .im (.int (k : Int))] (.int x) := vl_ix (k := 2 + k) (vl_v rfl) (vl_2 vl_k (vl_v rfl) (by simp [fAdd])) hkk
      have a2 : Vl (d2 fIx (dv 0) (dk (.int 1))) [.im (.list (nI vs)), .im (.str (Str.ofString "abcdefghijklmnopqrstuvwxyz")), .im (.int (k : Int))] (.int v1) := vl_ix (k := 1) (vl_v rfl) vl_k e1
      have a3 : Vl (d2 fIx (dlst (dcons (dk (.int 26)) (dcons (dk (.int 2)) dnil))) (d2 fIx (dv 0) (dk (.int 1)))) [.im (.list (nI vs)), .im (.str (Str.ofString "abcdefghijklmnopqrstuvwxyz")), .im (.int (k : Int))] (.int (M : Int)) := by
        generalize d2 fIx (dv 0) (dk (.int 1)) = t2 at *
        generalize ([.im (.list (nI vs)), .im (.str (Str.ofString "abcdefghijklmnopqrstuvwxyz")), .im (.int (k : Int))] : LS) = ℓ at *
        simp [Vl, d2, dlst, dcons, dnil, arg, bindE, dk, keepAll, peeks, peek, keepWs, keepW, a2, eM]
      exact vl_arg (vl_2 (vl_v rfl) (vl_2 a1 a3 (fmod_n x M hM.1 (by omega))) (some_at (x % M) (by have := Nat.mod_lt x hM.1; omega)))
    have hc := dlc_ok (i := 2) (f := g) src rfl (fun d => by simp) body (by simp [rgI]; omega)
    have hmap : (rgI 0 (1 + v0)).map g = ((List.range (1 + v0)).map f).map fun c => .str (S [c]) := by
      unfold rgI
      rw [List.map_map, List.map_map]
      refine List.map_congr_left fun k _ => ?_
      have ek : (0 : Int) + (k : Int) = (k : Int) := by omega
      rw [← hg]
      simp only [Function.comp, ek, Int.toNat_natCast]
    rw [hmap] at hc
    generalize dlc _ _ _ _ _ = tc at *
    generalize hwl : (List.range (1 + v0)).map f = wl at *
    have hwn : wl.length = 1 + v0 := by rw [← hwl]; simp
    have hj : fJoin (S []) (.list (wl.map fun c => .str (S [c]))) = some (.d (.str (S wl))) := by
      have hjo : joinOk (S []) (wl.map fun c => S [c]) = true := by
        unfold joinOk
        have : ((wl.map fun c => S [c]).map (·.length)).sum = wl.length := by
          clear hwl hwn hc hmap
          induction wl with
          | nil => rfl
          | cons c wl ih => rw [List.map_cons, List.map_cons, List.sum_cons, ih, S_len, List.length_cons, List.length_cons, List.length_nil]; omega
        rw [decide_eq_true_eq, this]; simp [S_len]; omega
      simp only [fJoin, allS_signs, hjo, if_true, join_signs]
    refine fn_ret ?_
    simp only [Vl, dm1, bindE, arg, dk, litE, peek, hc, hj]
  · rw [List.all_eq_true]
    intro c hc
    rw [List.mem_map] at hc
    obtain ⟨k, _, rfl⟩ := hc
    rw [← hf]
    have := Nat.mod_lt ((vs[2 + k]?).getD 0) hM.1
    simp [ltr]; omega
end K10

namespace K10
open PySem PySem.Spec PyProof.Rows L2 DL
/-! ### the draws -/
theorem rgI_succ (k : Int) (n : Nat) : rgI k (n + 1) = .int k :: rgI (k + 1) n := by
  unfold rgI
  rw [List.range_succ_eq_map, List.map_cons, List.map_map]
  congr 1
  · simp
  · apply List.map_congr_left
    intro a _
    simp only [Function.comp]
    congr 1
    omega
def Under (vs ts : List Nat) : Prop := ∀ (i v t : Nat), vs[i]? = some v → ts[i]? = some t → v < t
theorem under_snoc {vs ts : List Nat} {v t : Nat} (h : Under vs ts) (ht : ts[vs.length]? = some t) (hv : v < t) : Under (vs ++ [v]) ts := by
  intro i x y hx hy
  by_cases c : i < vs.length
  · rw [List.getElem?_append_left c] at hx; exact h i x y hx hy
  · by_cases c2 : i = vs.length
    · subst c2
      simp at hx
      rw [ht] at hy
      cases hy; omega
    · rw [List.getElem?_eq_none (by simp; omega)] at hx; cases hx
theorem nI_snoc (vs : List Nat) (v : Nat) : nI (vs ++ [v]) = nI vs ++ [.int (v : Int)] := by simp [nI]
/-- an append of a whole number -/
theorem app_n {t : CE} {a b d e f : L} {vs : List Nat} {v : Nat} (hl : vs.length < 16777216) (h : Vl t [a, b, .ow (nI vs), d, e, f] (.int v)) : dapp 2 t [a, b, .ow (nI vs), d, e, f] = some (.nx, [a, b, .ow (nI (vs ++ [v])), d, e, f]) := by
  have e1 : ([a, b, .ow (nI vs), d, e, f] : LS)[2]? = some (.ow (nI vs)) := rfl
  unfold dapp
  simp only [e1, vl_arg h, keepW, nI_len, if_pos hl, nI_snoc]
  rfl
theorem fdiv_n (a b : Nat) (h : 0 < b) (h2 : b < 1073741824) : fDiv (.int a) (.int b) = some (.d (.int (a / b : Nat))) := by
  have e := Int.fdiv_eq_ediv_of_nonneg (a : Int) (show 0 ≤ (b : Int) by omega)
  have dO : divOk (b : Int) = true := by unfold divOk; simp; omega
  have nz : (b : Int) ≠ 0 := by omega
  simp only [fDiv, dO, if_true, e]
  rfl
theorem fmul_n (a b : Nat) (h : a < 18446744073709551616) : fMul (.int a) (.int b) = some (.d (.int (a * b : Nat))) := by
  have : mulOk (a : Int) (b : Int) = true := by unfold mulOk; simp; omega
  simp only [fMul, this, if_true]
  rfl
theorem fmod_big (a b : Nat) (h : 0 < b) (h2 : b < 4294967296) : fMod (.int a) (.int b) = some (.d (.int (a % b : Nat))) := by
  have e := Int.fmod_eq_emod_of_nonneg (a : Int) (show 0 ≤ (b : Int) by omega)
  have hlog : b.log2 < 32 := (Nat.log2_lt (by omega)).mpr h2
  have dO : divOk (b : Int) = true := by unfold divOk; simp; omega
  have nz : (b : Int) ≠ 0 := by omega
  simp only [fMod, dO, if_true, e, if_pos nz]
  rfl
theorem abs_n (c : Int) : fAbs [.int c] = some (.d (.int (c.natAbs : Int))) := by
  simp only [fAbs]
  congr 3
  split <;> omega
theorem draw_loop (c : Int) (ts : List Nat) (hts : ∀ t ∈ ts, 0 < t ∧ t < 1073741824) (hlen : ts.length ≤ 1000) : ∀ (n k : Nat) (vs : List Nat) (lf mx : Nat) (x : L), k + n = ts.length → vs.length = k → Under vs ts → mx < 2147483647 →
    ∃ us z1 z2 z3, dforL (.nm 5) (dife (dtv (d2 fGe (dbi fAbs (dcons (dv 0) dnil)) (d2 fPow (dk (.int 10)) (dk (.int 18))))) (dseq (dapp 2 (d2 fMod (dv 3) (d2 fIx (dv 1) (dv 5)))) (dset 3 (d2 fDiv (dv 3) (d2 fIx (dv 1) (dv 5))))) (dseq (dset 4 (d2 fMod (d2 fAdd (d2 fAdd (d2 fAdd (d2 fMul (dv 4) (dv 4)) (d2 fMul (dk (.int 69621)) (dv 4))) (d2 fMul (dk (.int 7919)) (dv 5))) (dk (.int 11))) (dk (.int 2147483647)))) (dapp 2 (d2 fMod (d2 fMod (d2 fMul (dv 4) (dk (.int 16807))) (dk (.int 2147483629))) (d2 fIx (dv 1) (dv 5))))))
      (rgI k n) [.im (.int c), .im (.list (nI ts)), .ow (nI vs), .im (.int lf), .im (.int mx), x] = some (.nx, [.im (.int c), .im (.list (nI ts)), .ow (nI us), z1, z2, z3]) ∧ us.length = ts.length ∧ Under us ts
  | 0, k, vs, lf, mx, x, hk, hv, hu, hm => ⟨vs, _, _, _, by simp [rgI]; exact dforL_nil, by omega, hu⟩
  | n + 1, k, vs, lf, mx, x, hk, hv, hu, hm => by
    rw [rgI_succ]
    obtain ⟨t, ht⟩ : ∃ t, ts[k]? = some t := ⟨_, List.getElem?_eq_getElem (by omega)⟩
    have htb := hts t (List.mem_of_getElem? ht)
    have kk : ((k : Nat) : Int) + 1 = ((k + 1 : Nat) : Int) := by omega
    have go : ∀ {a b d e : L}, Vl (d2 fIx (dv 1) (dv 5)) [a, .im (.list (nI ts)), b, d, e, .im (.int (k : Int))] (.int t) := fun {a b d e} => vl_ix (k := k) (vl_v rfl) (vl_v rfl) ht
    have cnd : dtv (d2 fGe (dbi fAbs (dcons (dv 0) dnil)) (d2 fPow (dk (.int 10)) (dk (.int 18)))) [.im (.int c), .im (.list (nI ts)), .ow (nI vs), .im (.int lf), .im (.int mx), .im (.int (k : Int))] = some (.ok (decide ((1000000000000000000 : Int) ≤ (c.natAbs : Int))) [.im (.int c), .im (.list (nI ts)), .ow (nI vs), .im (.int lf), .im (.int mx), .im (.int (k : Int))]) := by
      refine tv (vl_2 (vl_bi (vl_v rfl) (abs_n c)) (vl_2 vl_k vl_k (w := .int 1000000000000000000) (by simp [fPow])) rfl)
    rw [kk]
    by_cases hc : (1000000000000000000 : Int) ≤ (c.natAbs : Int)
    · rw [decide_eq_true hc] at cnd
      have hlt := Nat.mod_lt lf htb.1
      obtain ⟨us, z1, z2, z3, e, el, eu⟩ := draw_loop c ts hts hlen n (k + 1) (vs ++ [lf % t]) (lf / t) mx (.im (.int k)) (by omega) (by simp [hv]) (under_snoc hu (by rw [hv]; exact ht) hlt) hm
      refine ⟨us, z1, z2, z3, dforL_go rfl (dife_t cnd (dseq_nx (app_n (v := lf % t) (by omega) (vl_2 (vl_v rfl) go (fmod_n lf t htb.1 htb.2))) (st_set (vl_2 (vl_v rfl) go (fdiv_n lf t htb.1 htb.2))))) e, el, eu⟩
    · rw [decide_eq_false hc] at cnd
      have hm2 := Nat.mod_lt (mx * mx + 69621 * mx + 7919 * k + 11) (show 0 < 2147483647 by decide)
      generalize hM : (mx * mx + 69621 * mx + 7919 * k + 11) % 2147483647 = M at *
      have hlt := Nat.mod_lt (M * 16807 % 2147483629) htb.1
      obtain ⟨us, z1, z2, z3, e, el, eu⟩ := draw_loop c ts hts hlen n (k + 1) (vs ++ [M * 16807 % 2147483629 % t]) lf M (.im (.int k)) (by omega) (by simp [hv]) (under_snoc hu (by rw [hv]; exact ht) hlt) hm2
      have s1 : Vl (d2 fMod (d2 fAdd (d2 fAdd (d2 fAdd (d2 fMul (dv 4) (dv 4)) (d2 fMul (dk (.int 69621)) (dv 4))) (d2 fMul (dk (.int 7919)) (dv 5))) (dk (.int 11))) (dk (.int 2147483647))) [.im (.int c), .im (.list (nI ts)), .ow (nI vs), .im (.int lf), .im (.int mx), .im (.int (k : Int))] (.int M) := by
        rw [← hM]
        refine vl_2 (a := .int (mx * mx + 69621 * mx + 7919 * k + 11 : Nat)) ?_ vl_k (fmod_big _ 2147483647 (by decide) (by decide))
        refine vl_2 (a := .int (mx * mx + 69621 * mx + 7919 * k : Nat)) ?_ vl_k rfl
        refine vl_2 (a := .int (mx * mx + 69621 * mx : Nat)) ?_ (vl_2 vl_k (vl_v rfl) (fmul_n 7919 k (by decide))) rfl
        exact vl_2 (vl_2 (vl_v rfl) (vl_v rfl) (fmul_n mx mx (by omega))) (vl_2 vl_k (vl_v rfl) (fmul_n 69621 mx (by decide))) rfl
      have s2 : ∀ {a b d : L}, Vl (d2 fMod (d2 fMod (d2 fMul (dv 4) (dk (.int 16807))) (dk (.int 2147483629))) (d2 fIx (dv 1) (dv 5))) [a, .im (.list (nI ts)), b, d, .im (.int M), .im (.int (k : Int))] (.int (M * 16807 % 2147483629 % t : Nat)) := fun {a b d} =>
        vl_2 (vl_2 (vl_2 (vl_v rfl) vl_k (fmul_n M 16807 (by omega))) vl_k (fmod_big _ 2147483629 (by decide) (by decide))) go (fmod_n _ t htb.1 htb.2)
      exact ⟨us, z1, z2, z3, dforL_go rfl (dife_f cnd (dseq_nx (st_set s1) (app_n (by omega) s2))) e, el, eu⟩
theorem draws_ok (c : Int) (ts : List Nat) (hts : ∀ t ∈ ts, 0 < t ∧ t < 1073741824) (hlen : ts.length ≤ 1000) : ∃ us, m_Ldraws [.int c, .list (nI ts)] = some (.fr (nI us)) ∧ us.length = ts.length ∧ Under us ts := by
  have hmx : ∃ mx : Nat, fMod (.int (c * 48271)) (.int 2147483647) = some (.d (.int mx)) ∧ mx < 2147483647 := by
    have dO : divOk 2147483647 = true := by decide
    have e := Int.fmod_eq_emod_of_nonneg (c * 48271) (show (0 : Int) ≤ 2147483647 by decide)
    refine ⟨((c * 48271) % 2147483647).toNat, ?_, ?_⟩
    · have h0 := Int.emod_nonneg (c * 48271) (show (2147483647 : Int) ≠ 0 by decide)
      simp only [fMod, dO, if_true, e, if_pos (show (2147483647 : Int) ≠ 0 by decide)]
      rw [Int.toNat_of_nonneg h0]
    · have h0 := Int.emod_nonneg (c * 48271) (show (2147483647 : Int) ≠ 0 by decide)
      have h1 := Int.emod_lt_of_pos (c * 48271) (show (0 : Int) < 2147483647 by decide)
      omega
  obtain ⟨mx, emx, hm⟩ := hmx
  obtain ⟨us, z1, z2, z3, e, el, eu⟩ := draw_loop c ts hts hlen ts.length 0 [] c.natAbs mx .un (by omega) rfl (fun i v t h => by cases h) hm
  refine ⟨us, ?_, el, eu⟩
  unfold m_Ldraws runD t_Ldraws
  show fin (dseq _ _ [.im (.int c), .im (.list (nI ts)), .un, .un, .un, .un]) = _
  refine fs_nx (ℓ1 := [.im (.int c), .im (.list (nI ts)), .ow (nI []), .un, .un, .un]) (by simp [dset, dlst, dnil, keepAll, peeks, keepWs, putW, nI]) ?_
  refine fs_nx (st_set (vl_bi (vl_v rfl) (abs_n c))) ?_
  refine fs_nx (st_set (vl_2 (vl_2 (vl_v rfl) vl_k (w := .int (c * 48271)) (by simp [fMul, mulOk])) vl_k emx)) ?_
  have es : drg1 (dbi fLen (dcons (dv 1) dnil)) [.im (.int c), .im (.list (nI ts)), .ow (nI []), .im (.int c.natAbs), .im (.int mx), .un] = some (.ok (rgI ((0 : Nat) : Int) ts.length) [.im (.int c), .im (.list (nI ts)), .ow (nI []), .im (.int c.natAbs), .im (.int mx), .un]) := by
    have h1 : Vl (dbi fLen (dcons (dv 1) dnil)) [.im (.int c), .im (.list (nI ts)), .ow (nI []), .im (.int c.natAbs), .im (.int mx), .un] (.int ts.length) := vl_bi (vl_v rfl) (by simp [fLen, nI_len]; try omega)
    have hs : small62 (ts.length : Int) = true := by unfold small62; simp; omega
    unfold drg1
    rw [vl_arg h1]
    simp only [peek, hs, if_true, Int.toNat_natCast]
    rfl
  refine fs_nx (dfor_of es e) ?_
  rfl
end K10

namespace DL
open PySem PySem.Spec PyProof.Rows L2
theorem vl_cutI {vs : List Nat} {t : CE} {ℓ : LS} {a b : Int} {us : List Nat} (h : Vl t ℓ (.list (nI vs))) (e : cutD (nI vs) (some a) (some b) = nI us) : dsl t (some (dk (.int a))) (some (dk (.int b))) ℓ = some (.ok (.fr (nI us)) ℓ) := by
  simp only [dsl, dpt, bindE, vl_arg h, vl_arg (vl_k (ℓ := ℓ) (d := .int a)), vl_arg (vl_k (ℓ := ℓ) (d := .int b)), peek, fSl, e]
/-- a call whose only argument is a new list -/
theorem vl_cF {m : List D → Option Rt} {t : CE} {ℓ : LS} {ds : List D} {r : D} (h : t ℓ = some (.ok (.fr ds) ℓ)) (hm : m [.list ds] = okd r) : Vl (dcall m (dcons t dnil)) ℓ r := by
  have ha : arg t ℓ = some (.ok (.d (.list ds)) ℓ) := by simp only [arg, h]
  simp only [Vl, dcall, dcons, dnil, ha, peeks, peek, hm, okd, keep1, ite_self]
theorem l1_ok {t : CE} {ℓ : LS} {a : D} (ha : Vl t ℓ a) : dlst (dcons t dnil) ℓ = some (.ok (.fr [a]) ℓ) := by
  simp [dlst, dcons, dnil, vl_arg ha, keepAll, peeks, peek, keepWs, keepW]
theorem l2_ok {t u : CE} {ℓ : LS} {a b : D} (ha : Vl t ℓ a) (hb : Vl u ℓ b) : dlst (dcons t (dcons u dnil)) ℓ = some (.ok (.fr [a, b]) ℓ) := by
  simp [dlst, dcons, dnil, vl_arg ha, vl_arg hb, keepAll, peeks, peek, keepWs, keepW]
theorem l3_ok {t u v : CE} {ℓ : LS} {a b c : D} (ha : Vl t ℓ a) (hb : Vl u ℓ b) (hc : Vl v ℓ c) : dlst (dcons t (dcons u (dcons v dnil))) ℓ = some (.ok (.fr [a, b, c]) ℓ) := by
  simp [dlst, dcons, dnil, vl_arg ha, vl_arg hb, vl_arg hc, keepAll, peeks, peek, keepWs, keepW]
theorem vl_fr {t u : CE} {ℓ : LS} {ds : List D} {i : Int} {r : D} (h : t ℓ = some (.ok (.fr ds) ℓ)) (hu : Vl u ℓ (.int i)) (hi : atI ds i = some r) : Vl (d2 fIx t u) ℓ r := by
  have ha : arg t ℓ = some (.ok (.d (.list ds)) ℓ) := by simp only [arg, h]
  simp only [Vl, d2, bindE, ha, vl_arg hu, peek, fIx, hi, Option.map]
end DL
namespace K10
open PySem PySem.Spec PyProof.Rows L2 DL
/-! ### good cells -/
inductive Good : Nat → D → List Nat → Prop
  | no {k} : Good k .none [45]
  | num {t : Int} {b : Nat} (ht : t.natAbs < 10 ^ 18) (hb : 0 < b ∧ b ≤ 60) (hg : Int.gcd t b = 1) : Good 0 (.tuple [.int t, .int b]) (numT t b)
  | word {w : List Nat} (hl : 1 ≤ w.length ∧ w.length ≤ 8) (h : w.all ltr = true) : Good 1 (.str (S w)) w
  | day {y m d : Nat} (hy : 1000 ≤ y ∧ y < 9000) (hm : 1 ≤ m ∧ m ≤ 12) (hd : 1 ≤ d ∧ (d : Int) ≤ lenOf y m) : Good 2 (.int (dayN y m d)) (dtx y m d)
def kS : Nat → Str
  | 0 => "number"
  | 1 => "word"
  | _ => "day"
def cellO : Nat → List Nat → Option D
  | 0 => numO
  | 1 => wordO
  | _ => dayO
theorem rc_all (k : Nat) (l : List Nat) (hl : l.length ≤ 1000) (hd : l ≠ [45]) : m_readcell [.str (kS k), .str (S l)] = outD (cellO k l) := by
  rcases k with _|_|k
  · exact rc_number l hl hd
  · exact rc_word l hl hd
  · exact rc_day l hl hd
theorem cellby_all (k : Nat) (hk : k < 3) (l : List Nat) (hl : l.length ≤ 1000) : m_Lcellby [.int k, .str (S l)] = okd (optD (cellO k l)) := by
  rcases k with _|_|_|k
  · exact lcellby_num l hl
  · exact lcellby_word l hl
  · exact lcellby_day l _ (ldayby_ok l hl)
  · omega
theorem dg_dig (n : Nat) (h : n < 10) : dg (48 + n) = true := by simp [dg]; omega
theorem dayv_dtx {y m d : Nat} (hy : y < 10000) (hm : m < 100) (hd : d < 100) : dayv (dtx y m d) = some (y, m, d) := by
  have e : dayv (dtx y m d) = if (45 = 45 ∧ 45 = 45 ∧ [48 + y / 1000, 48 + y / 100 % 10, 48 + y / 10 % 10, 48 + y % 10, 48 + m / 10, 48 + m % 10, 48 + d / 10, 48 + d % 10].all dg = true) then some (PySem.NumText.digitsVal [48 + y / 1000, 48 + y / 100 % 10, 48 + y / 10 % 10, 48 + y % 10], PySem.NumText.digitsVal [48 + m / 10, 48 + m % 10], PySem.NumText.digitsVal [48 + d / 10, 48 + d % 10]) else none := rfl
  have ha : [48 + y / 1000, 48 + y / 100 % 10, 48 + y / 10 % 10, 48 + y % 10, 48 + m / 10, 48 + m % 10, 48 + d / 10, 48 + d % 10].all dg = true := by
    simp only [List.all_cons, List.all_nil, Bool.and_true, Bool.and_eq_true]
    refine ⟨dg_dig _ (by omega), dg_dig _ (by omega), dg_dig _ (by omega), dg_dig _ (by omega), dg_dig _ (by omega), dg_dig _ (by omega), dg_dig _ (by omega), dg_dig _ (by omega)⟩
  rw [e, if_pos ⟨rfl, rfl, ha⟩, dv4, dv2, dv2]
  congr 1
  refine Prod.ext ?_ (Prod.ext ?_ ?_)
  · show _ = y; simp only [Nat.add_sub_cancel_left]; omega
  · show _ = m; simp only [Nat.add_sub_cancel_left]; omega
  · show _ = d; simp only [Nat.add_sub_cancel_left]; omega
theorem good_len {k : Nat} {g : D} {l : List Nat} (G : Good k g l) : l.length ≤ 22 := by
  cases G with
  | no => simp
  | num ht hb hg => exact numT_len ht hb.2
  | word hl h => omega
  | day hy hm hd => simp [dtx]
theorem good_read {k : Nat} {g : D} {l : List Nat} (G : Good k g l) : m_readcell [.str (kS k), .str (S l)] = okd g := by
  have hl := good_len G
  cases G with
  | no => exact rc_dash _
  | num ht hb hg =>
    rw [rc_all _ _ (by omega) (numT_dash _ _)]
    show outD (numO _) = _
    unfold numO
    rw [told_num ht hb hg]; rfl
  | word hw h =>
    rw [rc_all _ _ (by omega) (fun z => by rw [z] at h; simp [ltr] at h)]
    show outD (wordO _) = _
    unfold wordO
    rw [if_pos ⟨hw, h⟩]; rfl
  | day hy hm hd =>
    rename_i y m d
    have hb := lenOf_pos y m
    rw [rc_all _ _ (by omega) (fun z => by simp [dtx] at z)]
    show outD (dayO _) = _
    unfold dayO
    rw [dayv_dtx (by omega) (by omega) (by omega)]
    simp only
    rw [if_pos ⟨⟨hy.1, hy.2, hm.1, hm.2⟩, hd⟩]; rfl
theorem good_show {k : Nat} {g : D} {l : List Nat} (G : Good k g l) : m_showcell [.str (kS k), g] = okd (.str (S l)) := by
  unfold m_showcell runD t_showcell
  show fin (dseq _ _ [.im (.str (kS k)), .im g]) = _
  cases G with
  | no => exact fs_ret (tv (vl_2 (vl_v rfl) vl_k rfl)) (fn_ret dashV)
  | num ht hb hg => exact fs_skip (q_none _ _ (by simp)) (fs_ret (q_kind _ _ _ true litk1) (call_as m_shownumber _ 1 _ rfl _ (fun es z => by cases z) (shownumber_ok _ _ ht hb.2)))
  | word hw h => exact fs_skip (q_none _ _ (by simp)) (fs_skip (q_kind _ _ _ false litk2) (fs_skip (q_kind _ _ _ false litk4) (fn_ret (vl_v rfl))))
  | day hy hm hd => exact fs_skip (q_none _ _ (by simp)) (fs_skip (q_kind _ _ _ false litk3) (fs_ret (q_kind _ _ _ true litk5) (call_as m_showday _ 1 _ rfl _ (fun es z => by cases z) (showday_ok _ _ _ hy hm hd))))
/-! ### alike, refused -/
inductive Cel : D → Prop
  | no : Cel .none
  | str {z} : Cel (.str z)
  | int {i} : Cel (.int i)
  | pr {i j} : Cel (.tuple [.int i, .int j])
theorem good_cel {k : Nat} {g : D} {l : List Nat} (G : Good k g l) : Cel g := by cases G <;> constructor
theorem cellO_cel {k : Nat} {g : D} {l : List Nat} (h : cellO k l = some g) : Cel g := by
  rcases k with _|_|k
  · change numO l = some g at h
    unfold numO at h
    cases e : toldN l with
    | none => rw [e] at h; cases h
    | some p => rw [e] at h; cases h; exact .pr
  · change wordO l = some g at h
    unfold wordO at h
    split at h
    · cases h; exact .str
    · cases h
  · change dayO l = some g at h
    unfold dayO at h
    split at h
    · split at h
      · cases h; exact .int
      · cases h
    · cases h
theorem cellO_some {k : Nat} {g : D} {l : List Nat} (h : cellO k l = some g) : g ≠ .none := by
  rcases k with _|_|k
  · change numO l = some g at h
    unfold numO at h
    cases e : toldN l with
    | none => rw [e] at h; cases h
    | some p => rw [e] at h; cases h; simp
  · change wordO l = some g at h
    unfold wordO at h
    split at h
    · cases h; simp
    · cases h
  · change dayO l = some g at h
    unfold dayO at h
    split at h
    · split at h
      · cases h; simp
      · cases h
    · cases h
theorem e_bool (a b : Bool) : fEq (.bool a) (.bool b) = some (.d (.bool (a == b))) := by cases a <;> cases b <;> rfl
theorem shp_pr (i j : Int) : shp (.tuple [.int i, .int j]) = true := by
  simp [shp, SeqAt.shaped, PyData.canLay0, PyData.canLayAll0, PyData.depth, PyData.depthAll]
theorem eqv_pr (i j : Int) : PyData.eqv (.tuple [.int i, .int j]) (.tuple [.int i, .int j]) = true := by
  simp [PyData.eqv, PyData.eqvAll]
theorem self_eq {d : D} (C : Cel d) : fEq d d = some (.d (.bool true)) := by
  cases C with
  | no => rfl
  | str => rename_i z; rw [e_str]; simp
  | int => rename_i i; rw [e_int]; simp
  | pr =>
    rename_i i j
    simp only [fEq, shp_pr, eqv_pr, Bool.and_self, if_true]
theorem alike_ok {d : D} (C : Cel d) : m_Lalike [d, d] = okd (.bool true) := by
  have w := fun i : Int => lwhole_any (.int i)
  have sf := self_eq C
  unfold m_Lalike runD t_Lalike
  show fin (dseq _ _ [.im d, .im d]) = _
  cases C with
  | no => simp [fin, dseq, dife, dret, dor, dyes, bindT, dtv, d2, arg, bindE, dv, dk, peek, fIs, isNone, dandV, disi, d1, isiB, sf, e_bool]
  | str =>
    rename_i z
    simp [fin, dseq, dife, dret, dor, dyes, bindT, dtv, d2, arg, bindE, dv, dk, peek, fIs, isNone, dandV, disi, d1, isiB, sf, e_bool]
  | int =>
    rename_i i
    simp [fin, dseq, dife, dskip, dret, dor, dnot, dyes, bindT, dtv, d2, arg, bindE, dv, dk, peek, fIs, isNone, dandV, disi, d1, isiB, sf, dcall, dcons, dnil, peeks, w, isSc]
  | pr =>
    rename_i i j
    simp [fin, dseq, dife, dskip, dret, dor, dnot, dyes, bindT, dtv, d2, arg, bindE, dv, dk, dbi, fLen, peek, fIs, isNone, dandV, disi, d1, isiB, sf, fNe, shp_int, eqv_int, fIx, atI0, atI1, dcall, dcons, dnil, peeks, w, isSc]
theorem refused_ok (k : Str) (d : D) (h : m_readcell [.str k, d] = noT) : m_Lrefused [.str k, d] = okd (.bool true) := by
  unfold m_Lrefused runD t_Lrefused
  show fin (dseq _ _ [.im (.str k), .im d, .un]) = _
  have hb : ddrop (dcall m_readcell (dcons (dv 0) (dcons (dv 1) dnil))) [.im (.str k), .im d, .un] = some (.ex ⟨"NoTable", some ("row", .none)⟩, [.im (.str k), .im d, .un]) := by
    simp [ddrop, dcall, dcons, dnil, arg, dv, peeks, peek, h, noT, keepWs, keepW]
  have i1 : isA_NoTable "NoTable" = some true := by decide
  have b1 : isB_NoNumber "NoTable" = some false := by decide
  have b2 : isB_NoDay "NoTable" = some false := by decide
  have b3 : isB_ValueError "NoTable" = some true := by decide
  have b4 : isB_MarkError "NoTable" = some true := by decide
  have b5 : isF_row "NoTable" = true := by decide
  simp [dseq, dtryAs, hb, i1, b1, b2, b3, b4, b5, fin, dife, dskip, dret, dor, dnot, dyes, bindT, dtv, disE, dandV, d2, arg, bindE, dxf, dk, peek, fIs, isNone]
end K10

namespace K10
open PySem PySem.Spec PyProof.Rows L2 DL
def topsL : List Nat := [3, 9, 10, 11400, 1000, 8, 2, 26, 26, 26, 26, 26, 26, 26, 26, 2, 4, 1000000000, 1000000000, 90, 8000, 12, 31]
theorem len23 (us : List Nat) (h : us.length = 23) : ∃ x0 x1 x2 x3 x4 x5 x6 x7 x8 x9 x10 x11 x12 x13 x14 x15 x16 x17 x18 x19 x20 x21 x22, us = [x0, x1, x2, x3, x4, x5, x6, x7, x8, x9, x10, x11, x12, x13, x14, x15, x16, x17, x18, x19, x20, x21, x22] := by
  match us, h with
  | [x0, x1, x2, x3, x4, x5, x6, x7, x8, x9, x10, x11, x12, x13, x14, x15, x16, x17, x18, x19, x20, x21, x22], _ => exact ⟨x0, x1, x2, x3, x4, x5, x6, x7, x8, x9, x10, x11, x12, x13, x14, x15, x16, x17, x18, x19, x20, x21, x22, rfl⟩
theorem lgood_ok (us : List Nat) (hl : us.length = 23) (hu : Under us topsL) : ∃ (x0 : Nat) (g : D) (l : List Nat), us[0]? = some x0 ∧ x0 < 3 ∧ m_Lgood [.list (nI us)] = okd (.tuple [g, .str (S l)]) ∧ Good x0 g l := by
  obtain ⟨x0, x1, x2, x3, x4, x5, x6, x7, x8, x9, x10, x11, x12, x13, x14, x15, x16, x17, x18, x19, x20, x21, x22, rfl⟩ := len23 us hl
  have b0 := hu 0 _ _ rfl rfl
  have b5 := hu 5 _ _ rfl rfl
  have b6 := hu 6 _ _ rfl rfl
  have b15 := hu 15 _ _ rfl rfl
  have b16 := hu 16 _ _ rfl rfl
  have b17 := hu 17 _ _ rfl rfl
  have b18 := hu 18 _ _ rfl rfl
  have b19 := hu 19 _ _ rfl rfl
  have b20 := hu 20 _ _ rfl rfl
  have b21 := hu 21 _ _ rfl rfl
  have b22 := hu 22 _ _ rfl rfl
  clear hu
  have c1 : cutD (nI [x0, x1, x2, x3, x4, x5, x6, x7, x8, x9, x10, x11, x12, x13, x14, x15, x16, x17, x18, x19, x20, x21, x22]) (some 5) (some 15) = nI [x5, x6, x7, x8, x9, x10, x11, x12, x13, x14] := rfl
  have c2 : cutD (nI [x0, x1, x2, x3, x4, x5, x6, x7, x8, x9, x10, x11, x12, x13, x14, x15, x16, x17, x18, x19, x20, x21, x22]) (some 15) (some 20) = nI [x15, x16, x17, x18, x19] := rfl
  have c3 : cutD (nI [x0, x1, x2, x3, x4, x5, x6, x7, x8, x9, x10, x11, x12, x13, x14, x15, x16, x17, x18, x19, x20, x21, x22]) (some 20) (some 23) = nI [x20, x21, x22] := rfl
  have g0 : ([x0, x1, x2, x3, x4, x5, x6, x7, x8, x9, x10, x11, x12, x13, x14, x15, x16, x17, x18, x19, x20, x21, x22] : List Nat)[0]? = some x0 := rfl
  have g1 : ([x0, x1, x2, x3, x4, x5, x6, x7, x8, x9, x10, x11, x12, x13, x14, x15, x16, x17, x18, x19, x20, x21, x22] : List Nat)[1]? = some x1 := rfl
  generalize ([x0, x1, x2, x3, x4, x5, x6, x7, x8, x9, x10, x11, x12, x13, x14, x15, x16, x17, x18, x19, x20, x21, x22] : List Nat) = us at *
  have ix : ∀ {ℓ : LS} (k v : Nat), ℓ[0]? = some (.im (.list (nI us))) → us[k]? = some v → Vl (d2 fIx (dv 0) (dk (.int (k : Int)))) ℓ (.int v) := fun k v h hv => vl_2 (vl_v h) vl_k (nI_ix us k v hv)
  have q1 := vl_2 (f := fEq) (ix (ℓ := [.im (.list (nI us)), .un, .un]) 1 _ rfl g1) (vl_k (d := .int 0)) (e_int _ _)
  have q2 : ∀ z : Int, _ := fun z => vl_2 (f := fEq) (ix (ℓ := [.im (.list (nI us)), .un, .un]) 0 _ rfl g0) (vl_k (d := .int z)) (e_int _ _)
  refine ⟨x0, ?_⟩
  unfold m_Lgood runD t_Lgood
  show ∃ g l, _ ∧ _ ∧ fin (dseq _ _ [.im (.list (nI us)), .un, .un]) = _ ∧ _
  by_cases h1 : x1 = 0
  · rw [decide_eq_true (by omega)] at q1
    refine ⟨.none, [45], g0, b0, fs_ret (tv q1) (fn_ret (vl_t2 vl_k dashV)), .no⟩
  · rw [decide_eq_false (by omega)] at q1
    by_cases h2 : x0 = 0
    · subst h2
      obtain ⟨t, b, hn, ht, hb, hg⟩ := lnumber_ok x15 x16 x17 x18 x19 b15 b16 b17 b18 b19
      refine ⟨.tuple [.int t, .int b], numT t b, g0, b0, ?_, .num ht hb hg⟩
      refine fs_skip (tv q1) ?_
      have q3 := q2 0
      rw [decide_eq_true (by rfl)] at q3
      have hcall : Vl (dcall m_Lnumber (dcons (dsl (dv 0) (some (dk (.int 15))) (some (dk (.int 20)))) dnil)) [.im (.list (nI us)), .un, .un] (.tuple [.int t, .int b]) := vl_cF (vl_cutI (vl_v rfl) c2) hn
      have hk := p18
      have hl2 := numL60 hb.2
      have hl1 := intL_len ht
      have body : (dseq (dasg (.tup [(.nm 1), (.nm 2)]) (dcall m_Lnumber (dcons (dsl (dv 0) (some (dk (.int 15))) (some (dk (.int 20)))) dnil))) (dret (dtup (dcons (dtup (dcons (dv 1) (dcons (dv 2) dnil))) (dcons (d2 fAdd (dbi fStr (dcons (dv 1) dnil)) (d2 fIx (dlst (dcons (dk (.str "")) (dcons (d2 fAdd (dk (.str "/")) (dbi fStr (dcons (dv 2) dnil))) dnil))) (dbi fInt (dcons (d2 fGt (dv 2) (dk (.int 1))) dnil)))) dnil))))) [.im (.list (nI us)), .un, .un] = some (.rt (.d (.tuple [.tuple [.int t, .int b], .str (S (numT t b))])), [.im (.list (nI us)), .im (.int t), .im (.int b)]) := by
        refine dseq_nx (ℓ1 := [.im (.list (nI us)), .im (.int t), .im (.int b)]) ?_ ?_
        · simp only [dasg, vl_arg hcall, keepW]
          simp [bindP, bindPs]
        have v1 : Vl (dbi fStr (dcons (dv 1) dnil)) [.im (.list (nI us)), .im (.int t), .im (.int b)] (.str (S (intL t))) := vl_bi (vl_v rfl) (fstr_int t (by omega))
        have v2 : Vl (d2 fAdd (dk (.str "/")) (dbi fStr (dcons (dv 2) dnil))) [.im (.list (nI us)), .im (.int t), .im (.int b)] (.str (S (47 :: TL.numL b))) := vl_2 slashV (vl_bi (vl_v rfl) (fstr_nat b (by have := p10k; omega))) (fadd_S (by simp; omega))
        have v0 : Vl (dk (.str (Str.ofString ""))) [.im (.list (nI us)), .im (.int t), .im (.int b)] (.str (S [])) := by rw [litE]; rfl
        have v3 := vl_2 (f := fGt) (vl_v (ℓ := [.im (.list (nI us)), .im (.int t), .im (.int b)]) (i := 2) rfl) (vl_k (d := .int 1)) (w := .bool (decide (1 < (b : Int)))) rfl
        have f4 : fInt [.bool (decide (1 < (b : Int)))] = some (.d (.int (if b = 1 then 0 else 1))) := by
          by_cases c : b = 1
          · subst c; rfl
          · have : 1 < (b : Int) := by omega
            simp [fInt, c, this]
        have v4 := vl_bi (f := fInt) v3 f4
        have f5 : atI ([.str (S []), .str (S (47 :: TL.numL b))] : List D) (if b = 1 then 0 else 1) = some (.str (S (if b = 1 then [] else 47 :: TL.numL b))) := by
          by_cases c : b = 1
          · rw [if_pos c, if_pos c]; rfl
          · rw [if_neg c, if_neg c]; rfl
        have v5 := vl_fr (l2_ok v0 v2) v4 f5
        have v6 := vl_2 v1 v5 (fadd_S (by split <;> simp <;> omega))
        have v7 := vl_t2 (vl_t2 (vl_v (ℓ := [.im (.list (nI us)), .im (.int t), .im (.int b)]) (i := 1) rfl) (vl_v (i := 2) rfl)) v6
        simp only [dret, v7]
        rfl
      exact fs_rt (dife_t (tv q3) body)
    · have q3 := q2 0
      rw [decide_eq_false (by omega)] at q3
      by_cases h3 : x0 = 1
      · subst h3
        obtain ⟨w, hw, hwl, hwa⟩ := lword_ok [x5, x6, x7, x8, x9, x10, x11, x12, x13, x14] x5 x6 rfl rfl rfl b5 b6
        refine ⟨.str (S w), w, g0, b0, ?_, .word (by omega) hwa⟩
        refine fs_skip (tv q1) (fs_skip (tv q3) ?_)
        have q4 := q2 1
        rw [decide_eq_true (by rfl)] at q4
        have hcall : Vl (dcall m_Lword (dcons (dsl (dv 0) (some (dk (.int 5))) (some (dk (.int 15)))) dnil)) [.im (.list (nI us)), .un, .un] (.str (S w)) := vl_cF (vl_cutI (vl_v rfl) c1) hw
        exact fs_ret (tv q4) (fn_ret (vl_t2 hcall hcall))
      · have h4 : x0 = 2 := by omega
        subst h4
        have q4 := q2 1
        rw [decide_eq_false (by decide)] at q4
        have hp := lenOf_pos (1000 + (x20 : Int)) (1 + (x21 : Int))
        have hx0 : 0 ≤ (x22 : Int) % lenOf (1000 + (x20 : Int)) (1 + (x21 : Int)) := Int.emod_nonneg _ (by omega)
        have hx1 : (x22 : Int) % lenOf (1000 + (x20 : Int)) (1 + (x21 : Int)) < lenOf (1000 + (x20 : Int)) (1 + (x21 : Int)) := Int.emod_lt_of_pos _ (by omega)
        have hday := lday_ok x20 x21 x22 (by omega) b21
        obtain ⟨z, hz⟩ := Int.eq_ofNat_of_zero_le hx0
        rw [hz] at hday hx1
        have e1 : (1000 + (x20 : Int)) = ((1000 + x20 : Nat) : Int) := by omega
        have e2 : (1 + (x21 : Int)) = ((1 + x21 : Nat) : Int) := by omega
        have e3 : (1 + (z : Int)) = ((1 + z : Nat) : Int) := by omega
        rw [e1, e2] at hx1 hday
        rw [e3] at hday
        refine ⟨.int (dayN (1000 + x20 : Nat) (1 + x21 : Nat) (1 + z : Nat)), dtx (1000 + x20) (1 + x21) (1 + z), g0, b0, ?_, .day (by omega) (by omega) ⟨by omega, by omega⟩⟩
        refine fs_skip (tv q1) (fs_skip (tv q3) (fs_skip (tv q4) ?_))
        exact fn_ret (vl_cF (vl_cutI (vl_v rfl) c3) hday)
end K10

namespace DL
open PySem PySem.Spec PyProof.Rows L2
/-- a text of n signs at most -/
def Tx (t : CE) (ℓ : LS) (n : Nat) : Prop := ∃ r : List Nat, Vl t ℓ (.str (S r)) ∧ r.length ≤ n
theorem tx_more {t : CE} {ℓ : LS} {n m : Nat} (h : Tx t ℓ n) (hm : n ≤ m) : Tx t ℓ m := by
  obtain ⟨r, h1, h2⟩ := h; exact ⟨r, h1, by omega⟩
theorem tx_add {t u : CE} {ℓ : LS} {n m : Nat} (h : Tx t ℓ n) (hu : Tx u ℓ m) (hz : n + m ≤ 16777216) : Tx (d2 fAdd t u) ℓ (n + m) := by
  obtain ⟨r, h1, h2⟩ := h
  obtain ⟨q, h3, h4⟩ := hu
  exact ⟨r ++ q, vl_2 h1 h3 (K10.fadd_S (by omega)), by rw [List.length_append]; omega⟩
theorem tx_k {s : String} {ℓ : LS} : Tx (dk (.str (Str.ofString s))) ℓ s.length := by
  refine ⟨s.toList.map Char.toNat, ?_, by rw [List.length_map]; exact Nat.le_refl _⟩
  rw [← lit]; rfl
theorem cut_len (l : List Nat) (lo hi : Option Int) : ∃ r : List Nat, cutS (S l) lo hi = S r ∧ r.length ≤ l.length := by
  refine ⟨_, S_cut l lo hi, ?_⟩
  rw [List.length_take, List.length_drop]
  omega
theorem tx_hi {t u : CE} {ℓ : LS} {l : List Nat} {i : Int} (h : Vl t ℓ (.str (S l))) (hu : Vl u ℓ (.int i)) (hz : l.length ≤ 16777216) : Tx (dsl t none (some u)) ℓ l.length := by
  obtain ⟨r, e, hr⟩ := cut_len l none (some i)
  exact ⟨r, by simp only [Vl, dsl, dpt, bindE, vl_arg h, vl_arg hu, peek, fSl, S_len, if_pos hz, e], hr⟩
theorem tx_lo {t u : CE} {ℓ : LS} {l : List Nat} {i : Int} (h : Vl t ℓ (.str (S l))) (hu : Vl u ℓ (.int i)) (hz : l.length ≤ 16777216) : Tx (dsl t (some u) none) ℓ l.length := by
  obtain ⟨r, e, hr⟩ := cut_len l (some i) none
  exact ⟨r, by simp only [Vl, dsl, dpt, bindE, vl_arg h, vl_arg hu, peek, fSl, S_len, if_pos hz, e], hr⟩
theorem l4_ok {t u v x : CE} {ℓ : LS} {a b c d : D} (ha : Vl t ℓ a) (hb : Vl u ℓ b) (hc : Vl v ℓ c) (hd : Vl x ℓ d) : dlst (dcons t (dcons u (dcons v (dcons x dnil)))) ℓ = some (.ok (.fr [a, b, c, d]) ℓ) := by
  simp [dlst, dcons, dnil, vl_arg ha, vl_arg hb, vl_arg hc, vl_arg hd, keepAll, peeks, peek, keepWs, keepW]
theorem l5_ok {t u v x y : CE} {ℓ : LS} {a b c d e : D} (ha : Vl t ℓ a) (hb : Vl u ℓ b) (hc : Vl v ℓ c) (hd : Vl x ℓ d) (he : Vl y ℓ e) : dlst (dcons t (dcons u (dcons v (dcons x (dcons y dnil))))) ℓ = some (.ok (.fr [a, b, c, d, e]) ℓ) := by
  simp [dlst, dcons, dnil, vl_arg ha, vl_arg hb, vl_arg hc, vl_arg hd, vl_arg he, keepAll, peeks, peek, keepWs, keepW]
/-- a list of texts -/
def sL (ss : List String) : List D := ss.map fun s => .str (Str.ofString s)
def dcs (cs : List D) : CA := match cs with
  | [] => dnil
  | c :: cs => dcons (dk c) (dcs cs)
theorem dcs_ok (ℓ : LS) : ∀ cs : List D, dcs cs ℓ = some (.ok (cs.map .d) ℓ)
  | [] => rfl
  | c :: cs => by simp only [dcs, dcons, arg, dk, dcs_ok ℓ cs, List.map_cons]
theorem peeks_d (ℓ : LS) : ∀ cs : List D, peeks ℓ (cs.map .d) = some cs
  | [] => rfl
  | c :: cs => by simp only [List.map_cons, peeks, peek, peeks_d ℓ cs]
theorem keepWs_d (ℓ : LS) : ∀ cs : List D, keepWs (cs.map .d) ℓ = some ℓ
  | [] => rfl
  | c :: cs => by simp only [List.map_cons, keepWs, keepW, keepWs_d ℓ cs]
theorem dlst_dcs (ℓ : LS) (cs : List D) (h : cs.length ≤ 16777216) : dlst (dcs cs) ℓ = some (.ok (.fr cs) ℓ) := by
  simp only [dlst, dcs_ok, keepAll, peeks_d, keepWs_d, if_pos h]
/-- xs = xs + [..] -/
theorem set_app {i : Nat} {t : CE} {ℓ : LS} {as bs : List D} (hi : ℓ[i]? = some (.ow as)) (h : t ℓ = some (.ok (.fr bs) ℓ)) (hz : as.length + bs.length ≤ 16777216) : dset i (d2 fAdd (dv i) t) ℓ = some (.nx, ℓ.set i (.ow (as ++ bs))) := by
  have h1 : arg (dv i) ℓ = some (.ok (.o i) ℓ) := by simp only [arg, dv, hi]
  have h2 : arg t ℓ = some (.ok (.d (.list bs)) ℓ) := by simp only [arg, h]
  simp only [dset, d2, bindE, h1, h2, peek, hi, fAdd, if_pos hz, putW]
theorem app_ok {i : Nat} {t : CE} {ℓ : LS} {as : List D} {d : D} (hi : ℓ[i]? = some (.ow as)) (h : Vl t ℓ d) (hz : as.length < 16777216) : dapp i t ℓ = some (.nx, ℓ.set i (.ow (as ++ [d]))) := by
  simp only [dapp, hi, vl_arg h, keepW, if_pos hz]
/-- an index into a list that the frame owns -/
theorem vl_own {i : Nat} {u : CE} {ℓ : LS} {as : List D} {k : Int} {d : D} (hi : ℓ[i]? = some (.ow as)) (h : Vl u ℓ (.int k)) (ha : atI as k = some d) : Vl (d2 fIx (dv i) u) ℓ d := by
  have h1 : arg (dv i) ℓ = some (.ok (.o i) ℓ) := by simp only [arg, dv, hi]
  simp only [Vl, d2, bindE, h1, vl_arg h, peek, hi, fIx, ha, Option.map]
end DL
namespace K10
open PySem PySem.Spec PyProof.Rows L2 DL
def od1 : List String := ["", "--", "+5", "05", "-0", "0", "5/1", "2/4", "7/61", "1000000000000000000", "-999999999999999999/59"]
def od2 : List String := ["0999-12-31", "1000-01-01", "8999-12-31", "9000-01-01", "1900-02-29", "2000-02-29", "2001-00-10"]
def od3 : List String := ["2001-13-01", "2001-04-31", "2001-4-3", "abcdefghi", "aB", "a b", "None", "1/0", "/2", "5/", "5/-2"]
def od4 : List String := ["none", "1//2", "- 5", "0/5", "2004-02-29", "2100-02-28", "2001-01-00", "1e5", "1_000", "1.5", "3/05"]
theorem odd_at (n : Nat) (h : n < 40) : ∃ r : List Nat, atI (sL (od1 ++ od2 ++ od3 ++ od4)) (n : Int) = some (.str (S r)) ∧ r.length ≤ 30 := by
  have hl : (od1 ++ od2 ++ od3 ++ od4).length = 40 := rfl
  have ha : ∀ s ∈ od1 ++ od2 ++ od3 ++ od4, s.toList.length ≤ 30 := by decide
  have hg : (od1 ++ od2 ++ od3 ++ od4)[n]? = some ((od1 ++ od2 ++ od3 ++ od4)[n]'(by omega)) := List.getElem?_eq_getElem _
  refine ⟨((od1 ++ od2 ++ od3 ++ od4)[n]'(by omega)).toList.map Char.toNat, ?_, ?_⟩
  · refine atI_nat ?_
    unfold sL
    rw [List.getElem?_map, hg, ← lit]; rfl
  · rw [List.length_map]
    exact ha _ (List.getElem_mem _)
theorem some_len : (" !\"#$&'()*+,-./0123456789:;<=>?@ABCDEFGHIJKLMNOPQRSTUVWXYZ[\\]^_`abcdefghijklmnopqrstuvwxyz{|}~\n" : String).toList.length = 95 := by decide
theorem lmade_ok (us : List Nat) (hl : us.length = 23) (hu : Under us topsL) (l : List Nat) (hll : l.length ≤ 22) : ∃ r : List Nat, m_Lmade [.str (S l), .list (nI us)] = okd (.str (S r)) ∧ r.length ≤ 1000 := by
  obtain ⟨x2, g2⟩ : ∃ x, us[2]? = some x := ⟨_, List.getElem?_eq_getElem (by omega)⟩
  obtain ⟨x3, g3⟩ : ∃ x, us[3]? = some x := ⟨_, List.getElem?_eq_getElem (by omega)⟩
  obtain ⟨x4, g4⟩ : ∃ x, us[4]? = some x := ⟨_, List.getElem?_eq_getElem (by omega)⟩
  have b2 : x2 < 10 := hu 2 _ _ g2 rfl
  have ix : ∀ {ℓ : LS} (k v : Nat), ℓ[1]? = some (.im (.list (nI us))) → us[k]? = some v → Vl (d2 fIx (dv 1) (dk (.int (k : Int)))) ℓ (.int v) := fun k v h hv => vl_2 (vl_v h) vl_k (nI_ix us k v hv)
  have hz : l.length ≤ 16777216 := by omega
  suffices hs : ∃ r : List Nat, fin (t_Lmade [.im (.str (S l)), .im (.list (nI us)), .un, .un, .un, .un, .un]) = okd (.str (S r)) ∧ r.length ≤ 1000 by exact hs
  unfold t_Lmade
  generalize hsm : Str.ofString " !\"#$&'()*+,-./0123456789:;<=>?@ABCDEFGHIJKLMNOPQRSTUVWXYZ[\\]^_`abcdefghijklmnopqrstuvwxyz{|}~\n" = sm
  have hsm2 : ∃ ls : List Nat, sm = S ls ∧ ls.length = 95 := ⟨_, by rw [← hsm, lit], by rw [List.length_map]; exact some_len⟩
  obtain ⟨ls, rfl, hls⟩ := hsm2
  clear hsm
  -- the sign
  have s3 : ∃ c : Nat, Vl (d2 fIx (dv 2) (d2 fMod (d2 fIx (dv 1) (dk (.int 3))) (dbi fLen (dcons (dv 2) dnil)))) [.im (.str (S l)), .im (.list (nI us)), .im (.str (S ls)), .un, .un, .un, .un] (.str (S [c])) := by
    have hlt := Nat.mod_lt x3 (show 0 < 95 by decide)
    have ha : atI ls ((x3 % 95 : Nat) : Int) = some (ls[x3 % 95]'(by omega)) := atI_nat (List.getElem?_eq_getElem _)
    refine ⟨ls[x3 % 95]'(by omega), vl_2 (vl_v rfl) (vl_2 (ix 3 _ rfl g3) (vl_bi (vl_v rfl) (w := .int ((95 : Nat) : Int)) ?_) (fmod_n x3 95 (by decide) (by decide))) ?_⟩
    · simp [fLen, S_len, hls]
    · simp only [fIx, S_len, hls, tl_S, ha, Option.map]; rfl
  obtain ⟨c, s3⟩ := s3
  have s4 : Vl (d2 fMod (d2 fIx (dv 1) (dk (.int 4))) (d2 fAdd (dbi fLen (dcons (dv 0) dnil)) (dk (.int 1)))) [.im (.str (S l)), .im (.list (nI us)), .im (.str (S ls)), .im (.str (S [c])), .un, .un, .un] (.int (x4 % (l.length + 1) : Nat)) := by
    refine vl_2 (ix 4 _ rfl g4) (vl_2 (vl_bi (vl_v rfl) (w := .int (l.length : Int)) ?_) vl_k (w := .int ((l.length + 1 : Nat) : Int)) rfl) (fmod_n x4 _ (by omega) (by omega))
    simp only [fLen, S_len, if_pos hz]
  generalize x4 % (l.length + 1) = at' at s4
  suffices hs : ∃ r : List Nat, fin (dseq (dset 5 (dlst (dcs (sL od1)))) (dseq (dset 5 (d2 fAdd (dv 5) (dlst (dcs (sL od2))))) (dseq (dset 5 (d2 fAdd (dv 5) (dlst (dcs (sL od3))))) (dseq (dset 5 (d2 fAdd (dv 5) (dlst (dcs (sL od4))))) (dseq (dset 6 (dlst (dcons (d2 fAdd (d2 fAdd (dsl (dv 0) none (some (dv 4))) (dv 3)) (dsl (dv 0) (some (dv 4)) none)) (dcons (d2 fAdd (d2 fAdd (dsl (dv 0) none (some (dv 4))) (dv 3)) (dsl (dv 0) (some (d2 fAdd (dv 4) (dk (.int 1)))) none)) (dcons (d2 fAdd (dsl (dv 0) none (some (dv 4))) (dsl (dv 0) (some (d2 fAdd (dv 4) (dk (.int 1)))) none)) (dcons (d2 fAdd (dv 0) (dk (.str (Str.ofString "\n")))) dnil)))))) (dseq (dset 6 (d2 fAdd (dv 6) (dlst (dcons (d2 fAdd (dk (.str (Str.ofString " "))) (dv 0)) (dcons (d2 fAdd (dv 0) (dk (.str (Str.ofString " ")))) (dcons (d2 fIx (dv 5) (d2 fMod (d2 fIx (dv 1) (dk (.int 3))) (dk (.int 40)))) (dcons (d2 fAdd (dv 0) (dv 0)) (dcons (d2 fAdd (d2 fAdd (dsl (dv 0) none (some (dv 4))) (dbi fStr (dcons (d2 fMod (d2 fIx (dv 1) (dk (.int 3))) (dk (.int 10))) dnil))) (dsl (dv 0) (some (dv 4)) none)) dnil)))))))) (dseq (dapp 6 (d2 fAdd (dk (.str (Str.ofString "-"))) (dv 0))) (dret (d2 fIx (dv 6) (d2 fIx (dv 1) (dk (.int 2)))))))))))
      [.im (.str (S l)), .im (.list (nI us)), .im (.str (S ls)), .im (.str (S [c])), .im (.int (at' : Int)), .un, .un]) = okd (.str (S r)) ∧ r.length ≤ 1000 by
    obtain ⟨r, h1, h2⟩ := hs
    exact ⟨r, fs_nx (st_set vl_k) (fs_nx (st_set s3) (fs_nx (st_set s4) h1)), h2⟩
  have o1 : dset 5 (dlst (dcs (sL od1))) [.im (.str (S l)), .im (.list (nI us)), .im (.str (S ls)), .im (.str (S [c])), .im (.int (at' : Int)), .un, .un] = some (.nx, [.im (.str (S l)), .im (.list (nI us)), .im (.str (S ls)), .im (.str (S [c])), .im (.int (at' : Int)), .ow (sL od1), .un]) := by
    simp only [dset, dlst_dcs _ (sL od1) (by decide), putW]; rfl
  have oN : ∀ (a b : List String), a.length ≤ 100 → b.length ≤ 100 → dset 5 (d2 fAdd (dv 5) (dlst (dcs (sL b)))) [.im (.str (S l)), .im (.list (nI us)), .im (.str (S ls)), .im (.str (S [c])), .im (.int (at' : Int)), .ow (sL a), .un] = some (.nx, [.im (.str (S l)), .im (.list (nI us)), .im (.str (S ls)), .im (.str (S [c])), .im (.int (at' : Int)), .ow (sL (a ++ b)), .un]) := fun a b h1 h2 => by
    have e : sL (a ++ b) = sL a ++ sL b := by simp [sL]
    have la : (sL a).length = a.length := by simp [sL]
    have lb : (sL b).length = b.length := by simp [sL]
    rw [e]
    exact set_app rfl (dlst_dcs _ _ (by omega)) (by omega)
  suffices hs : ∃ r : List Nat, fin (dseq (dset 6 (dlst (dcons (d2 fAdd (d2 fAdd (dsl (dv 0) none (some (dv 4))) (dv 3)) (dsl (dv 0) (some (dv 4)) none)) (dcons (d2 fAdd (d2 fAdd (dsl (dv 0) none (some (dv 4))) (dv 3)) (dsl (dv 0) (some (d2 fAdd (dv 4) (dk (.int 1)))) none)) (dcons (d2 fAdd (dsl (dv 0) none (some (dv 4))) (dsl (dv 0) (some (d2 fAdd (dv 4) (dk (.int 1)))) none)) (dcons (d2 fAdd (dv 0) (dk (.str (Str.ofString "\n")))) dnil)))))) (dseq (dset 6 (d2 fAdd (dv 6) (dlst (dcons (d2 fAdd (dk (.str (Str.ofString " "))) (dv 0)) (dcons (d2 fAdd (dv 0) (dk (.str (Str.ofString " ")))) (dcons (d2 fIx (dv 5) (d2 fMod (d2 fIx (dv 1) (dk (.int 3))) (dk (.int 40)))) (dcons (d2 fAdd (dv 0) (dv 0)) (dcons (d2 fAdd (d2 fAdd (dsl (dv 0) none (some (dv 4))) (dbi fStr (dcons (d2 fMod (d2 fIx (dv 1) (dk (.int 3))) (dk (.int 10))) dnil))) (dsl (dv 0) (some (dv 4)) none)) dnil)))))))) (dseq (dapp 6 (d2 fAdd (dk (.str (Str.ofString "-"))) (dv 0))) (dret (d2 fIx (dv 6) (d2 fIx (dv 1) (dk (.int 2)))))))
      [.im (.str (S l)), .im (.list (nI us)), .im (.str (S ls)), .im (.str (S [c])), .im (.int (at' : Int)), .ow (sL (od1 ++ od2 ++ od3 ++ od4)), .un]) = okd (.str (S r)) ∧ r.length ≤ 1000 by
    obtain ⟨r, h1, h2⟩ := hs
    exact ⟨r, fs_nx o1 (fs_nx (oN od1 od2 (by decide) (by decide)) (fs_nx (oN (od1 ++ od2) od3 (by decide) (by decide)) (fs_nx (oN (od1 ++ od2 ++ od3) od4 (by decide) (by decide)) h1))), h2⟩
  obtain ⟨ro, ho, hro⟩ := odd_at (x3 % 40) (Nat.mod_lt _ (by decide))
  generalize sL (od1 ++ od2 ++ od3 ++ od4) = od at *
  clear o1 oN
  -- the ten choices
  have key : ∀ (z : L), ∃ r0 r1 r2 r3 r4 r5 r6 r7 r8 r9 : List Nat, (r0.length ≤ 100 ∧ r1.length ≤ 100 ∧ r2.length ≤ 100 ∧ r3.length ≤ 100 ∧ r4.length ≤ 100 ∧ r5.length ≤ 100 ∧ r6.length ≤ 100 ∧ r7.length ≤ 100 ∧ r8.length ≤ 100 ∧ r9.length ≤ 100) := fun _ => ⟨[], [], [], [], [], [], [], [], [], [], by simp⟩
  have va : ∀ z : L, Vl (dv 4) [.im (.str (S l)), .im (.list (nI us)), .im (.str (S ls)), .im (.str (S [c])), .im (.int (at' : Int)), .ow od, z] (.int (at' : Int)) := fun z => vl_v rfl
  have va1 : ∀ z : L, Vl (d2 fAdd (dv 4) (dk (.int 1))) [.im (.str (S l)), .im (.list (nI us)), .im (.str (S ls)), .im (.str (S [c])), .im (.int (at' : Int)), .ow od, z] (.int ((at' : Int) + 1)) := fun z => vl_2 (vl_v rfl) vl_k rfl
  have vt : ∀ z : L, Vl (dv 0) [.im (.str (S l)), .im (.list (nI us)), .im (.str (S ls)), .im (.str (S [c])), .im (.int (at' : Int)), .ow od, z] (.str (S l)) := fun z => vl_v rfl
  have tt : ∀ z : L, Tx (dv 0) [.im (.str (S l)), .im (.list (nI us)), .im (.str (S ls)), .im (.str (S [c])), .im (.int (at' : Int)), .ow od, z] 22 := fun z => ⟨l, vt z, hll⟩
  have ts : ∀ z : L, Tx (dv 3) [.im (.str (S l)), .im (.list (nI us)), .im (.str (S ls)), .im (.str (S [c])), .im (.int (at' : Int)), .ow od, z] 1 := fun z => ⟨[c], vl_v rfl, by simp⟩
  have th := fun z : L => tx_more (tx_hi (vt z) (va z) hz) hll
  have tl := fun z : L => tx_more (tx_lo (vt z) (va z) hz) hll
  have tl1 := fun z : L => tx_more (tx_lo (vt z) (va1 z) hz) hll
  have tn : ∀ z : L, Tx (dbi fStr (dcons (d2 fMod (d2 fIx (dv 1) (dk (.int 3))) (dk (.int 10))) dnil)) [.im (.str (S l)), .im (.list (nI us)), .im (.str (S ls)), .im (.str (S [c])), .im (.int (at' : Int)), .ow od, z] 1 := fun z => by
    have hlt := Nat.mod_lt x3 (show 0 < 10 by decide)
    exact ⟨TL.numL (x3 % 10), vl_bi (vl_2 (ix 3 _ rfl g3) vl_k (fmod_n x3 10 (by decide) (by decide))) (fstr_nat _ (by have := p10k; omega)), TL.numL_len (by decide) (by omega)⟩
  obtain ⟨r0, v0, n0⟩ := tx_add (tx_add (th .un) (ts .un) (by decide)) (tl .un) (by decide)
  obtain ⟨r1, v1, n1⟩ := tx_add (tx_add (th .un) (ts .un) (by decide)) (tl1 .un) (by decide)
  obtain ⟨r2, v2, n2⟩ := tx_add (th .un) (tl1 .un) (by decide)
  obtain ⟨r3, v3, n3⟩ := tx_add (tt .un) (tx_more (tx_k (s := "\n")) (show _ ≤ 1 by decide)) (by decide)
  have w1 := l4_ok v0 v1 v2 v3
  refine (?_ : ∃ r : List Nat, fin (dseq (dset 6 _) _ _) = _ ∧ _)
  have s6 : dset 6 (dlst (dcons (d2 fAdd (d2 fAdd (dsl (dv 0) none (some (dv 4))) (dv 3)) (dsl (dv 0) (some (dv 4)) none)) (dcons (d2 fAdd (d2 fAdd (dsl (dv 0) none (some (dv 4))) (dv 3)) (dsl (dv 0) (some (d2 fAdd (dv 4) (dk (.int 1)))) none)) (dcons (d2 fAdd (dsl (dv 0) none (some (dv 4))) (dsl (dv 0) (some (d2 fAdd (dv 4) (dk (.int 1)))) none)) (dcons (d2 fAdd (dv 0) (dk (.str (Str.ofString "\n")))) dnil))))) [.im (.str (S l)), .im (.list (nI us)), .im (.str (S ls)), .im (.str (S [c])), .im (.int (at' : Int)), .ow od, .un] = some (.nx, [.im (.str (S l)), .im (.list (nI us)), .im (.str (S ls)), .im (.str (S [c])), .im (.int (at' : Int)), .ow od, .ow [.str (S r0), .str (S r1), .str (S r2), .str (S r3)]]) := by
    unfold dset
    rw [w1]
    rfl
  generalize hz6 : (.ow [.str (S r0), .str (S r1), .str (S r2), .str (S r3)] : L) = z6 at s6
  obtain ⟨r4, v4, n4⟩ := tx_add (tx_more (tx_k (s := " ")) (show _ ≤ 1 by decide)) (tt z6) (by decide)
  obtain ⟨r5, v5, n5⟩ := tx_add (tt z6) (tx_more (tx_k (s := " ")) (show _ ≤ 1 by decide)) (by decide)
  obtain ⟨r7, v7, n7⟩ := tx_add (tt z6) (tt z6) (by decide)
  obtain ⟨r8, v8, n8⟩ := tx_add (tx_add (th z6) (tn z6) (by decide)) (tl z6) (by decide)
  have v6 : Vl (d2 fIx (dv 5) (d2 fMod (d2 fIx (dv 1) (dk (.int 3))) (dk (.int 40)))) [.im (.str (S l)), .im (.list (nI us)), .im (.str (S ls)), .im (.str (S [c])), .im (.int (at' : Int)), .ow od, z6] (.str (S ro)) := vl_own rfl (vl_2 (ix 3 _ rfl g3) vl_k (fmod_n x3 40 (by decide) (by decide))) ho
  have w2 := l5_ok v4 v5 v6 v7 v8
  subst hz6
  have s7 := set_app (i := 6) rfl w2 (by simp)
  have s7' := s7
  obtain ⟨r9, v9, n9⟩ := tx_add (tx_more (tx_k (s := "-")) (show _ ≤ 1 by decide)) (tt (.ow [.str (S r0), .str (S r1), .str (S r2), .str (S r3), .str (S r4), .str (S r5), .str (S ro), .str (S r7), .str (S r8)])) (by decide)
  have s8 := app_ok (i := 6) rfl v9 (by simp)
  have fin9 : ∃ r : List Nat, atI ([.str (S r0), .str (S r1), .str (S r2), .str (S r3), .str (S r4), .str (S r5), .str (S ro), .str (S r7), .str (S r8), .str (S r9)] : List D) (x2 : Int) = some (.str (S r)) ∧ r.length ≤ 1000 := by
    rcases x2 with _|_|_|_|_|_|_|_|_|_|x2
    · exact ⟨r0, rfl, by omega⟩
    · exact ⟨r1, rfl, by omega⟩
    · exact ⟨r2, rfl, by omega⟩
    · exact ⟨r3, rfl, by omega⟩
    · exact ⟨r4, rfl, by omega⟩
    · exact ⟨r5, rfl, by omega⟩
    · exact ⟨ro, rfl, by omega⟩
    · exact ⟨r7, rfl, by omega⟩
    · exact ⟨r8, rfl, by omega⟩
    · exact ⟨r9, rfl, by omega⟩
    · omega
  obtain ⟨r, hr, hrl⟩ := fin9
  refine ⟨r, fs_nx s6 (fs_nx s7 (fs_nx s8 (fn_ret (vl_own rfl (ix 2 _ rfl g2) hr)))), hrl⟩
end K10

namespace K10
open PySem PySem.Spec PyProof.Rows L2 DL
/-! ### one draw of the law -/
theorem cellO_dash (k : Nat) : cellO k [45] = none := by
  rcases k with _|_|k
  · show numO [45] = none
    simp [numO, toldN, rdN, fore, tops, figs]
  · show wordO [45] = none
    simp [wordO, ltr]
  · rfl
theorem kS_at (k : Nat) (h : k < 3) : atI ([.str (Str.ofString "number"), .str (Str.ofString "word"), .str (Str.ofString "day")] : List D) (k : Int) = some (.str (kS k)) := by
  rcases k with _|_|_|k
  · rfl
  · rfl
  · rfl
  · omega
theorem shp_S {l : List Nat} (h : ∀ c ∈ l, c < 1114112) : shp (.str (S l)) = true := by
  have : PyData.strOk (S l) = true := by
    unfold PyData.strOk S
    simp only [List.all_toArray, List.all_eq_true, decide_eq_true_eq]
    exact h
  simp [shp, SeqAt.shaped, PyData.canLay0, PyData.depth, this]
theorem numL_small (n : Nat) : ∀ c ∈ TL.numL n, c < 1114112 := fun c hc => by have := TL.numL_digits n c hc; omega
theorem good_small {k : Nat} {g : D} {l : List Nat} (G : Good k g l) : ∀ c ∈ l, c < 1114112 := by
  cases G with
  | no => simp
  | num ht hb hg =>
    rename_i t b
    intro c hc
    unfold numT intL at hc
    rcases List.mem_append.mp hc with z | z
    · split at z
      · rcases List.mem_cons.mp z with z | z
        · omega
        · exact numL_small _ c z
      · exact numL_small _ c z
    · split at z
      · cases z
      · rcases List.mem_cons.mp z with z | z
        · omega
        · exact numL_small _ c z
  | word hl h =>
    intro c hc
    have := List.all_eq_true.mp h c hc
    simp [ltr] at this; omega
  | day hy hm hd =>
    rename_i y m d
    have hb := lenOf_pos y m
    intro c hc
    simp [dtx] at hc
    omega
theorem cel_str {g : D} (C : Cel g) (z : Str) (hz : shp (.str z) = true) : ∃ b, fEq g (.str z) = some (.d (.bool b)) := by
  cases C with
  | no => exact ⟨PyData.eqv .none (.str z), by simp only [fEq, hz]; rfl⟩
  | str => exact ⟨_, e_str _ _⟩
  | int => exact ⟨PyData.eqv (.int _) (.str z), by simp only [fEq, hz]; rfl⟩
  | pr =>
    rename_i i j
    refine ⟨PyData.eqv (.tuple [.int i, .int j]) (.str z), ?_⟩
    simp only [fEq, shp_pr, hz, Bool.and_self, if_true]
theorem q_or_f {a b : CT} {ℓ : LS} {r : Option (Res Bool)} (h : a ℓ = some (.ok false ℓ)) (h2 : b ℓ = r) : dor a b ℓ = r := by unfold dor bindT; rw [h]; exact h2
theorem q_or_t {a b : CT} {ℓ : LS} (h : a ℓ = some (.ok true ℓ)) : dor a b ℓ = some (.ok true ℓ) := by unfold dor bindT; rw [h]; rfl
theorem sk_if {q : CT} {s u : CS} {ℓ : LS} {r : Option (Fl × LS)} (hq : q ℓ = some (.ok false ℓ)) (h : u ℓ = r) : dseq (dife q s dskip) u ℓ = r := dseq_nx (dife_f hq rfl) h
theorem vl_isi_str {t : CE} {ℓ : LS} {z : Str} (h : Vl t ℓ (.str z)) : Vl (disi "str" t) ℓ (.bool true) := by
  simp only [Vl, disi, d1, bindE, vl_arg h, peek, isiB]; rfl
theorem e_ne (a b : Str) : fNe (.str a) (.str b) = some (.d (.bool (!(a == b)))) := by simp [fNe]
theorem own_add {i : Nat} {t : CE} {ℓ : LS} {as bs : List D} (hi : ℓ[i]? = some (.ow as)) (h : t ℓ = some (.ok (.fr bs) ℓ)) (hz : as.length + bs.length ≤ 16777216) : arg (d2 fAdd (dv i) t) ℓ = some (.ok (.d (.list (as ++ bs))) ℓ) := by
  have h1 : arg (dv i) ℓ = some (.ok (.o i) ℓ) := by simp only [arg, dv, hi]
  have h2 : arg t ℓ = some (.ok (.d (.list bs)) ℓ) := by simp only [arg, h]
  have h3 : d2 fAdd (dv i) t ℓ = some (.ok (.fr (as ++ bs)) ℓ) := by simp only [d2, bindE, h1, h2, peek, hi, fAdd, if_pos hz]
  simp only [arg, h3]
theorem nI_at (vs : List Nat) (k v : Nat) (h : vs[k]? = some v) : atI (nI vs) (k : Int) = some (.int v : D) := atI_nat (by simp [nI, h])
theorem topsA (ℓ : LS) : d2 fAdd (dlst (dcons (dk (.int 3)) (dcons (dk (.int 9)) (dcons (dk (.int 10)) (dcons (d2 fMul (d2 fMul (dk (.int 95)) (dk (.int 3))) (dk (.int 40))) (dcons (dk (.int 1000)) (dcons (dk (.int 8)) (dcons (dk (.int 2)) dnil)))))))) (dmulL (dlst (dcons (dk (.int 26)) dnil)) (dk (.int 8))) ℓ = some (.ok (.fr (nI [3, 9, 10, 11400, 1000, 8, 2, 26, 26, 26, 26, 26, 26, 26, 26])) ℓ) := by
  simp [d2, dlst, dcons, dnil, dmulL, arg, bindE, dk, peek, peeks, keepAll, keepWs, keepW, fMul, mulOk, fAdd, nI, List.replicate]
theorem topsB (ℓ : LS) : dlst (dcons (dk (.int 2)) (dcons (dk (.int 4)) (dcons (d2 fPow (dk (.int 10)) (dk (.int 9))) (dcons (d2 fPow (dk (.int 10)) (dk (.int 9))) (dcons (dk (.int 90)) (dcons (dk (.int 8000)) (dcons (dk (.int 12)) (dcons (dk (.int 31)) dnil)))))))) ℓ = some (.ok (.fr (nI [2, 4, 1000000000, 1000000000, 90, 8000, 12, 31])) ℓ) := by
  simp [d2, dlst, dcons, dnil, arg, bindE, dk, peek, peeks, keepAll, keepWs, keepW, fPow, nI]
/-! one draw -/
theorem body_ok (z : L) (c : Int) (a2 a3 a4 a5 a6 a7 a8 a9 a10 a11 a12 : L) : ∃ b1 b2 b3 b4 b5 b6 b7 b8 b9 b10 b11 b12 : L,
    (dseq (dset 2 (d2 fAdd (dlst (dcons (dk (.int 3)) (dcons (dk (.int 9)) (dcons (dk (.int 10)) (dcons (d2 fMul (d2 fMul (dk (.int 95)) (dk (.int 3))) (dk (.int 40))) (dcons (dk (.int 1000)) (dcons (dk (.int 8)) (dcons (dk (.int 2)) dnil)))))))) (dmulL (dlst (dcons (dk (.int 26)) dnil)) (dk (.int 8))))) (dseq (dset 3 (dcall m_Ldraws (dcons (dv 1) (dcons (d2 fAdd (dv 2) (dlst (dcons (dk (.int 2)) (dcons (dk (.int 4)) (dcons (d2 fPow (dk (.int 10)) (dk (.int 9))) (dcons (d2 fPow (dk (.int 10)) (dk (.int 9))) (dcons (dk (.int 90)) (dcons (dk (.int 8000)) (dcons (dk (.int 12)) (dcons (dk (.int 31)) dnil)))))))))) dnil)))) (dseq (dset 4 (d2 fIx (dlst (dcons (dk (.str "number")) (dcons (dk (.str "word")) (dcons (dk (.str "day")) dnil)))) (d2 fIx (dv 3) (dk (.int 0))))) (dseq (dasg (.tup [(.nm 11), (.nm 12)]) (dcall m_Lgood (dcons (dv 3) dnil))) (dseq (dset 5 (dcall m_showcell (dcons (dv 4) (dcons (dv 11) dnil)))) (dseq (dife (dor (dnot (dtv (disi "str" (dv 5)))) (dor (dtv (d2 fNe (dv 5) (dv 12))) (dnot (dtv (dcall m_Lalike (dcons (dcall m_readcell (dcons (dv 4) (dcons (dv 12) dnil))) (dcons (dv 11) dnil))))))) (dret (dk (.bool false))) dskip) (dseq (dset 6 (d2 fMod (d2 fAdd (d2 fIx (dv 3) (dk (.int 0))) (d2 fMul (dbi fInt (dcons (d2 fEq (d2 fMod (d2 fIx (dv 3) (dk (.int 4))) (dk (.int 7))) (dk (.int 3))) dnil)) (d2 fAdd (dk (.int 1)) (d2 fMod (d2 fIx (dv 3) (dk (.int 3))) (dk (.int 2)))))) (dk (.int 3)))) (dseq (dset 7 (d2 fIx (dlst (dcons (dk (.str "number")) (dcons (dk (.str "word")) (dcons (dk (.str "day")) dnil)))) (dv 6))) (dseq (dset 8 (dcall m_Lmade (dcons (dv 12) (dcons (dv 3) dnil)))) (dseq (dset 9 (dcall m_Lcellby (dcons (dv 6) (dcons (dv 8) dnil)))) (dseq (dife (dor (dtv (d2 fEq (dv 8) (dk (.str "-")))) (dtv (d2 fIsNot (dv 9) (dk .none)))) (dife (dnot (dtv (dcall m_Lalike (dcons (dcall m_readcell (dcons (dv 7) (dcons (dv 8) dnil))) (dcons (dv 9) dnil))))) (dret (dk (.bool false))) dskip) (dife (dnot (dtv (dcall m_Lrefused (dcons (dv 7) (dcons (dv 8) dnil))))) (dret (dk (.bool false))) dskip)) (dseq (dset 10 (d2 fIx (dlst (dcons (dk .none) (dcons (dk (.int 5)) (dcons (dk (.bool true)) (dcons (dlst (dcons (dv 12) dnil)) (dcons (dtup (dcons (dv 12) dnil)) (dcons (d2 fEq (dv 11) (dv 12)) dnil))))))) (d2 fMod (d2 fIx (dv 3) (dk (.int 3))) (dk (.int 6))))) (dife (dor (dnot (dtv (dcall m_Lrefused (dcons (dv 4) (dcons (dv 10) dnil))))) (dnot (dtv (dcall m_Lalike (dcons (dcall m_readcell (dcons (dv 4) (dcons (dv 12) dnil))) (dcons (dv 11) dnil)))))) (dret (dk (.bool false))) dskip))))))))))))) [z, .im (.int c), a2, a3, a4, a5, a6, a7, a8, a9, a10, a11, a12] = some (.nx, [z, b1, b2, b3, b4, b5, b6, b7, b8, b9, b10, b11, b12]) := by
  obtain ⟨us, hdr, hl, hu⟩ := draws_ok c topsL (by decide) (by decide)
  have hl : us.length = 23 := hl
  obtain ⟨x0, g, l, g0, b0, hgood, G⟩ := lgood_ok us hl hu
  obtain ⟨r, hmade, hr⟩ := lmade_ok us hl hu l (good_len G)
  obtain ⟨x3, g3⟩ : ∃ x, us[3]? = some x := ⟨_, List.getElem?_eq_getElem (by omega)⟩
  obtain ⟨x4, g4⟩ : ∃ x, us[4]? = some x := ⟨_, List.getElem?_eq_getElem (by omega)⟩
  have C := good_cel G
  have hal := alike_ok C
  have hrd := good_read G
  have hsh := good_show G
  suffices hs : ∃ b6 b7 b8 b9 b10 : L, (dseq (dset 6 (d2 fMod (d2 fAdd (d2 fIx (dv 3) (dk (.int 0))) (d2 fMul (dbi fInt (dcons (d2 fEq (d2 fMod (d2 fIx (dv 3) (dk (.int 4))) (dk (.int 7))) (dk (.int 3))) dnil)) (d2 fAdd (dk (.int 1)) (d2 fMod (d2 fIx (dv 3) (dk (.int 3))) (dk (.int 2)))))) (dk (.int 3)))) (dseq (dset 7 (d2 fIx (dlst (dcons (dk (.str "number")) (dcons (dk (.str "word")) (dcons (dk (.str "day")) dnil)))) (dv 6))) (dseq (dset 8 (dcall m_Lmade (dcons (dv 12) (dcons (dv 3) dnil)))) (dseq (dset 9 (dcall m_Lcellby (dcons (dv 6) (dcons (dv 8) dnil)))) (dseq (dife (dor (dtv (d2 fEq (dv 8) (dk (.str "-")))) (dtv (d2 fIsNot (dv 9) (dk .none)))) (dife (dnot (dtv (dcall m_Lalike (dcons (dcall m_readcell (dcons (dv 7) (dcons (dv 8) dnil))) (dcons (dv 9) dnil))))) (dret (dk (.bool false))) dskip) (dife (dnot (dtv (dcall m_Lrefused (dcons (dv 7) (dcons (dv 8) dnil))))) (dret (dk (.bool false))) dskip)) (dseq (dset 10 (d2 fIx (dlst (dcons (dk .none) (dcons (dk (.int 5)) (dcons (dk (.bool true)) (dcons (dlst (dcons (dv 12) dnil)) (dcons (dtup (dcons (dv 12) dnil)) (dcons (d2 fEq (dv 11) (dv 12)) dnil))))))) (d2 fMod (d2 fIx (dv 3) (dk (.int 3))) (dk (.int 6))))) (dife (dor (dnot (dtv (dcall m_Lrefused (dcons (dv 4) (dcons (dv 10) dnil))))) (dnot (dtv (dcall m_Lalike (dcons (dcall m_readcell (dcons (dv 4) (dcons (dv 12) dnil))) (dcons (dv 11) dnil)))))) (dret (dk (.bool false))) dskip))))))) [z, .im (.int c), .ow (nI [3, 9, 10, 11400, 1000, 8, 2, 26, 26, 26, 26, 26, 26, 26, 26]), .im (.list (nI us)), .im (.str (kS x0)), .im (.str (S l)), a6, a7, a8, a9, a10, .im g, .im (.str (S l))] = some (.nx, [z, .im (.int c), .ow (nI [3, 9, 10, 11400, 1000, 8, 2, 26, 26, 26, 26, 26, 26, 26, 26]), .im (.list (nI us)), .im (.str (kS x0)), .im (.str (S l)), b6, b7, b8, b9, b10, .im g, .im (.str (S l))]) by
    obtain ⟨b6, b7, b8, b9, b10, e⟩ := hs
    refine ⟨.im (.int c), .ow (nI [3, 9, 10, 11400, 1000, 8, 2, 26, 26, 26, 26, 26, 26, 26, 26]), .im (.list (nI us)), .im (.str (kS x0)), .im (.str (S l)), b6, b7, b8, b9, b10, .im g, .im (.str (S l)), ?_⟩
    refine dseq_nx (ℓ1 := [z, .im (.int c), .ow (nI [3, 9, 10, 11400, 1000, 8, 2, 26, 26, 26, 26, 26, 26, 26, 26]), a3, a4, a5, a6, a7, a8, a9, a10, a11, a12]) (by simp only [dset, topsA, putW]; rfl) ?_
    refine dseq_nx (ℓ1 := [z, .im (.int c), .ow (nI [3, 9, 10, 11400, 1000, 8, 2, 26, 26, 26, 26, 26, 26, 26, 26]), .ow (nI us), a4, a5, a6, a7, a8, a9, a10, a11, a12]) ?_ ?_
    · generalize hℓ : ([z, .im (.int c), .ow (nI [3, 9, 10, 11400, 1000, 8, 2, 26, 26, 26, 26, 26, 26, 26, 26]), a3, a4, a5, a6, a7, a8, a9, a10, a11, a12] : LS) = ℓ0
      have h2 : ℓ0[2]? = some (.ow (nI [3, 9, 10, 11400, 1000, 8, 2, 26, 26, 26, 26, 26, 26, 26, 26])) := by rw [← hℓ]; rfl
      have hT := own_add h2 (topsB ℓ0) (by simp [nI])
      have h1 : arg (dv 1) ℓ0 = some (.ok (.d (.int c)) ℓ0) := vl_arg (vl_v (by rw [← hℓ]; rfl))
      have e : nI [3, 9, 10, 11400, 1000, 8, 2, 26, 26, 26, 26, 26, 26, 26, 26] ++ nI [2, 4, 1000000000, 1000000000, 90, 8000, 12, 31] = nI topsL := rfl
      rw [e] at hT
      generalize d2 fAdd (dv 2) _ = t2 at *
      simp only [dset, dcall, dcons, dnil, h1, hT, peeks, peek, hdr, keep2, putW]
      rw [← hℓ]; rfl
    refine dseq_nx (st_set (vl_fr (l3_ok vl_k vl_k vl_k) (vl_own rfl (vl_k (d := .int ((0 : Nat) : Int))) (nI_at us 0 x0 g0)) (kS_at x0 b0))) ?_
    refine dseq_nx (ℓ1 := [z, .im (.int c), .ow (nI [3, 9, 10, 11400, 1000, 8, 2, 26, 26, 26, 26, 26, 26, 26, 26]), .im (.list (nI us)), .im (.str (kS x0)), a5, a6, a7, a8, a9, a10, .im g, .im (.str (S l))]) ?_ ?_
    · simp [dasg, dcall, dcons, dnil, arg, dv, peeks, peek, hgood, isSc, keepWs, keepW, bindP, bindPs]
    refine dseq_nx (st_set (vl_c2 (vl_v rfl) (vl_v rfl) hsh)) ?_
    refine sk_if ?_ e
    refine q_or_f (q_not (tv (vl_isi_str (vl_v rfl)))) (q_or_f (tv (vl_2 (vl_v rfl) (vl_v rfl) (by rw [e_ne]; simp))) (q_not (tv (vl_c2 (vl_c2 (vl_v rfl) (vl_v rfl) hrd) (vl_v rfl) hal))))
  clear hdr hgood hsh
  generalize hown : (.ow (nI [3, 9, 10, 11400, 1000, 8, 2, 26, 26, 26, 26, 26, 26, 26, 26]) : L) = z2
  clear hown
  have ix : ∀ {ℓ : LS} (k v : Nat), ℓ[3]? = some (.im (.list (nI us))) → us[k]? = some v → Vl (d2 fIx (dv 3) (dk (.int (k : Int)))) ℓ (.int v) := fun k v h hv => vl_2 (vl_v h) vl_k (nI_ix us k v hv)
  have s6 : ∃ o : Nat, o < 3 ∧ Vl (d2 fMod (d2 fAdd (d2 fIx (dv 3) (dk (.int 0))) (d2 fMul (dbi fInt (dcons (d2 fEq (d2 fMod (d2 fIx (dv 3) (dk (.int 4))) (dk (.int 7))) (dk (.int 3))) dnil)) (d2 fAdd (dk (.int 1)) (d2 fMod (d2 fIx (dv 3) (dk (.int 3))) (dk (.int 2)))))) (dk (.int 3))) [z, .im (.int c), z2, .im (.list (nI us)), .im (.str (kS x0)), .im (.str (S l)), a6, a7, a8, a9, a10, .im g, .im (.str (S l))] (.int (o : Int)) := by
    have u1 := vl_2 (f := fEq) (vl_2 (f := fMod) (ix (ℓ := [z, .im (.int c), z2, .im (.list (nI us)), .im (.str (kS x0)), .im (.str (S l)), a6, a7, a8, a9, a10, .im g, .im (.str (S l))]) 4 _ rfl g4) (vl_k (d := .int 7)) (fmod_n x4 7 (by decide) (by decide))) (vl_k (d := .int 3)) (e_int _ _)
    have f4 : fInt [.bool (decide (((x4 % 7 : Nat) : Int) = 3))] = some (.d (.int ((if x4 % 7 = 3 then 1 else 0 : Nat) : Int))) := by
      by_cases c : x4 % 7 = 3
      · have : ((x4 % 7 : Nat) : Int) = 3 := by omega
        rw [decide_eq_true this, if_pos c]; rfl
      · have : ¬ ((x4 % 7 : Nat) : Int) = 3 := by omega
        rw [decide_eq_false this, if_neg c]; rfl
    have u2 := vl_bi (f := fInt) u1 f4
    generalize (if x4 % 7 = 3 then 1 else 0 : Nat) = p at u2
    have u3 := vl_2 (f := fAdd) (w := .int ((1 + x3 % 2 : Nat) : Int)) (vl_k (d := .int 1)) (vl_2 (f := fMod) (ix (ℓ := [z, .im (.int c), z2, .im (.list (nI us)), .im (.str (kS x0)), .im (.str (S l)), a6, a7, a8, a9, a10, .im g, .im (.str (S l))]) 3 _ rfl g3) (vl_k (d := .int 2)) (fmod_n x3 2 (by decide) (by decide))) rfl
    have f5 : fMul (.int (p : Int)) (.int ((1 + x3 % 2 : Nat) : Int)) = some (.d (.int ((p * (1 + x3 % 2) : Nat) : Int))) := by
      have : mulOk (p : Int) ((1 + x3 % 2 : Nat) : Int) = true := by unfold mulOk; simp; omega
      simp only [fMul, this, if_true]; rfl
    refine ⟨(x0 + p * (1 + x3 % 2)) % 3, Nat.mod_lt _ (by decide), ?_⟩
    exact vl_2 (vl_2 (ix 0 _ rfl g0) (vl_2 u2 u3 f5) (w := .int ((x0 + p * (1 + x3 % 2) : Nat) : Int)) rfl) vl_k (fmod_n _ 3 (by decide) (by decide))
  obtain ⟨o, ho, s6⟩ := s6
  refine (?_ : ∃ b6 b7 b8 b9 b10 : L, dseq (dset 6 _) _ _ = _)
  have hcb := cellby_all o ho r hr
  -- the odd one
  have so : ∃ d : D, isiB "str" d = false ∧ ∀ (w6 w7 w8 w9 : L), Vl (d2 fIx (dlst (dcons (dk .none) (dcons (dk (.int 5)) (dcons (dk (.bool true)) (dcons (dlst (dcons (dv 12) dnil)) (dcons (dtup (dcons (dv 12) dnil)) (dcons (d2 fEq (dv 11) (dv 12)) dnil))))))) (d2 fMod (d2 fIx (dv 3) (dk (.int 3))) (dk (.int 6)))) [z, .im (.int c), z2, .im (.list (nI us)), .im (.str (kS x0)), .im (.str (S l)), w6, w7, w8, w9, a10, .im g, .im (.str (S l))] d := by
    obtain ⟨b, hb⟩ := cel_str C (S l) (shp_S (good_small G))
    have hlt := Nat.mod_lt x3 (show 0 < 6 by decide)
    have hd : ∃ d : D, isiB "str" d = false ∧ atI ([.none, .int 5, .bool true, .list [.str (S l)], .tuple [.str (S l)], .bool b] : List D) ((x3 % 6 : Nat) : Int) = some d := by
      generalize x3 % 6 = k at hlt
      rcases k with _|_|_|_|_|_|k
      · exact ⟨_, by rfl, rfl⟩
      · exact ⟨_, by rfl, rfl⟩
      · exact ⟨_, by rfl, rfl⟩
      · exact ⟨_, by rfl, rfl⟩
      · exact ⟨_, by rfl, rfl⟩
      · exact ⟨_, by rfl, rfl⟩
      · omega
    obtain ⟨d, hd1, hd2⟩ := hd
    refine ⟨d, hd1, fun w6 w7 w8 w9 => ?_⟩
    have v := vl_2 (f := fMod) (ix (ℓ := [z, .im (.int c), z2, .im (.list (nI us)), .im (.str (kS x0)), .im (.str (S l)), w6, w7, w8, w9, a10, .im g, .im (.str (S l))]) 3 _ rfl g3) (vl_k (d := .int 6)) (fmod_n x3 6 (by decide) (by decide))
    have v12 : Vl (dv 12) [z, .im (.int c), z2, .im (.list (nI us)), .im (.str (kS x0)), .im (.str (S l)), w6, w7, w8, w9, a10, .im g, .im (.str (S l))] (.str (S l)) := vl_v rfl
    have ve := vl_2 (f := fEq) (vl_v (i := 11) (ℓ := [z, .im (.int c), z2, .im (.list (nI us)), .im (.str (kS x0)), .im (.str (S l)), w6, w7, w8, w9, a10, .im g, .im (.str (S l))]) rfl) v12 hb
    have v4 := l1_ok v12
    generalize d2 fEq (dv 11) (dv 12) = te at *
    generalize dlst (dcons (dv 12) dnil) = tl at *
    generalize d2 fMod (d2 fIx (dv 3) (dk (.int 3))) (dk (.int 6)) = ti at *
    generalize dv 12 = t12 at *
    generalize ([z, .im (.int c), z2, .im (.list (nI us)), .im (.str (kS x0)), .im (.str (S l)), w6, w7, w8, w9, a10, .im g, .im (.str (S l))] : LS) = ℓ0 at *
    refine vl_fr (ds := [.none, .int 5, .bool true, .list [.str (S l)], .tuple [.str (S l)], .bool b]) ?_ v hd2
    simp [dlst, dtup, dcons, dnil, arg, dk, v12, v4, ve, keepAll, peeks, peek, keepWs, keepW]
  obtain ⟨dO, hdO, so⟩ := so
  have hrf := refused_ok (kS x0) dO (rc_nostr _ _ hdO)
  refine ⟨.im (.int o), .im (.str (kS o)), .im (.str (S r)), .im (optD (cellO o r)), .im dO, ?_⟩
  refine dseq_nx (st_set s6) ?_
  refine dseq_nx (st_set (vl_fr (l3_ok vl_k vl_k vl_k) (vl_v (d := .int o) rfl) (kS_at o ho))) ?_
  refine dseq_nx (st_set (vl_c2 (vl_v rfl) (vl_v rfl) hmade)) ?_
  refine dseq_nx (st_set (vl_c2 (vl_v rfl) (vl_v rfl) hcb)) ?_
  show dseq _ _ [z, .im (.int c), z2, .im (.list (nI us)), .im (.str (kS x0)), .im (.str (S l)), .im (.int o), .im (.str (kS o)), .im (.str (S r)), .im (optD (cellO o r)), a10, .im g, .im (.str (S l))] = _
  refine dseq_nx (ℓ1 := [z, .im (.int c), z2, .im (.list (nI us)), .im (.str (kS x0)), .im (.str (S l)), .im (.int o), .im (.str (kS o)), .im (.str (S r)), .im (optD (cellO o r)), a10, .im g, .im (.str (S l))]) ?_ ?_
  · have q1 := vl_2 (f := fEq) (vl_v (ℓ := [z, .im (.int c), z2, .im (.list (nI us)), .im (.str (kS x0)), .im (.str (S l)), .im (.int o), .im (.str (kS o)), .im (.str (S r)), .im (optD (cellO o r)), a10, .im g, .im (.str (S l))]) (i := 8) rfl) dashV (e_str _ _)
    by_cases hdash : r = [45]
    · subst hdash
      have e1 : (S [45] == S [45]) = true := by rw [S_beq]; rfl
      rw [e1] at q1
      have hd := cellO_dash o
      have ha := alike_ok .no
      refine dife_t (q_or_t (tv q1)) (dife_f ?_ rfl)
      exact q_not (tv (vl_c2 (vl_c2 (vl_v rfl) (vl_v rfl) (rc_dash (kS o))) (vl_v (d := .none) (by rw [hd]; rfl)) ha))
    · have e1 : (S r == S [45]) = false := by rw [S_beq]; simpa using hdash
      rw [e1] at q1
      have hrc := rc_all o r hr hdash
      cases hco : cellO o r with
      | none =>
        rw [hco] at hrc q1
        have q2 := vl_2 (f := fIsNot) (vl_v (ℓ := [z, .im (.int c), z2, .im (.list (nI us)), .im (.str (kS x0)), .im (.str (S l)), .im (.int o), .im (.str (kS o)), .im (.str (S r)), .im (optD none), a10, .im g, .im (.str (S l))]) (i := 9) (d := .none) rfl) (vl_k (d := .none)) (w := .bool false) rfl
        refine dife_f (q_or_f (tv q1) (tv q2)) (dife_f ?_ rfl)
        exact q_not (tv (vl_c2 (vl_v rfl) (vl_v rfl) (refused_ok (kS o) (.str (S r)) hrc)))
      | some e =>
        rw [hco] at hrc q1
        have hne := cellO_some hco
        have hi : fIsNot e .none = some (.d (.bool true)) := by
          cases e <;> first | rfl | exact absurd rfl hne
        have q2 := vl_2 (f := fIsNot) (vl_v (ℓ := [z, .im (.int c), z2, .im (.list (nI us)), .im (.str (kS x0)), .im (.str (S l)), .im (.int o), .im (.str (kS o)), .im (.str (S r)), .im (optD (some e)), a10, .im g, .im (.str (S l))]) (i := 9) (d := e) rfl) (vl_k (d := .none)) hi
        refine dife_t ((q_or_f (tv q1) (tv q2))) (dife_f ?_ rfl)
        exact q_not (tv (vl_c2 (vl_c2 (vl_v rfl) (vl_v rfl) (show m_readcell [.str (kS o), .str (S r)] = okd e from hrc)) (vl_v (d := e) rfl) (alike_ok (cellO_cel hco))))
  refine dseq_nx (st_set (so _ _ _ _)) ?_
  refine dife_f ?_ rfl
  exact q_or_f (q_not (tv (vl_c2 (vl_v rfl) (vl_v rfl) hrf))) (q_not (tv (vl_c2 (vl_c2 (vl_v rfl) (vl_v rfl) hrd) (vl_v rfl) hal)))
/-! the law -/
theorem law_loop (z : L) (t : CS) (ht : ∀ (c : Int) (a2 a3 a4 a5 a6 a7 a8 a9 a10 a11 a12 : L), ∃ b1 b2 b3 b4 b5 b6 b7 b8 b9 b10 b11 b12 : L, t [z, .im (.int c), a2, a3, a4, a5, a6, a7, a8, a9, a10, a11, a12] = some (.nx, [z, b1, b2, b3, b4, b5, b6, b7, b8, b9, b10, b11, b12])) : ∀ (cs : List Int) (a1 a2 a3 a4 a5 a6 a7 a8 a9 a10 a11 a12 : L), ∃ b1 b2 b3 b4 b5 b6 b7 b8 b9 b10 b11 b12 : L,
    dforL (.nm 1) t (cs.map .int) [z, a1, a2, a3, a4, a5, a6, a7, a8, a9, a10, a11, a12] = some (.nx, [z, b1, b2, b3, b4, b5, b6, b7, b8, b9, b10, b11, b12])
  | [], a1, a2, a3, a4, a5, a6, a7, a8, a9, a10, a11, a12 => ⟨a1, a2, a3, a4, a5, a6, a7, a8, a9, a10, a11, a12, rfl⟩
  | c :: cs, a1, a2, a3, a4, a5, a6, a7, a8, a9, a10, a11, a12 => by
    obtain ⟨b1, b2, b3, b4, b5, b6, b7, b8, b9, b10, b11, b12, e⟩ := ht c a2 a3 a4 a5 a6 a7 a8 a9 a10 a11 a12
    obtain ⟨d1, d2, d3, d4, d5, d6, d7, d8, d9, d10, d11, d12, e2⟩ := law_loop z t ht cs b1 b2 b3 b4 b5 b6 b7 b8 b9 b10 b11 b12
    exact ⟨d1, d2, d3, d4, d5, d6, d7, d8, d9, d10, d11, d12, dforL_go rfl e e2⟩
theorem law_holds (ns : List Int) (h : ns.length ≤ 63) : m_law [.list (ns.map .int)] = some (.d (.bool true)) := by
  unfold m_law runD t_law
  show fin (dseq _ _ [.im (.list (ns.map .int)), .un, .un, .un, .un, .un, .un, .un, .un, .un, .un, .un, .un]) = _
  have es : dit (dsl (d2 fAdd (dv 0) (dlst (dcons (dk (.int 0)) dnil))) none (some (dk (.int 64)))) [.im (.list (ns.map .int)), .un, .un, .un, .un, .un, .un, .un, .un, .un, .un, .un, .un] = some (.ok ((ns ++ [0]).map .int) [.im (.list (ns.map .int)), .un, .un, .un, .un, .un, .un, .un, .un, .un, .un, .un, .un]) := by
    have h1 : (ns.map PyData.int).length + ([.int 0] : List D).length ≤ 16777216 := by simp; omega
    have hl := l1_ok (vl_k (ℓ := [.im (.list (ns.map .int)), .un, .un, .un, .un, .un, .un, .un, .un, .un, .un, .un, .un]) (d := .int 0))
    have hv : arg (dv 0) [.im (.list (ns.map .int)), .un, .un, .un, .un, .un, .un, .un, .un, .un, .un, .un, .un] = some (.ok (.d (.list (ns.map .int))) [.im (.list (ns.map .int)), .un, .un, .un, .un, .un, .un, .un, .un, .un, .un, .un, .un]) := vl_arg (vl_v rfl)
    have hc : DL.cutD (ns.map .int ++ [.int 0]) none (some 64) = ((ns ++ [0]).map .int : List D) := by
      have e64 : HT.sIx (ns.map PyData.int ++ [PyData.int 0]).length (ns.map PyData.int ++ [PyData.int 0]).length (some (64 : Int)) = (ns.map PyData.int ++ [PyData.int 0]).length := by
        have := HT.sIx_nat (ns.map PyData.int ++ [PyData.int 0]).length (ns.map PyData.int ++ [PyData.int 0]).length 64
        rw [show ((64 : Nat) : Int) = 64 from rfl] at this
        rw [this]; simp; omega
      have e0 : HT.sIx (ns.map PyData.int ++ [PyData.int 0]).length 0 none = 0 := rfl
      unfold DL.cutD
      rw [e64, e0, List.drop_zero, Nat.sub_zero, List.take_length, List.map_append]
      rfl
    generalize ([.im (.list (ns.map .int)), .un, .un, .un, .un, .un, .un, .un, .un, .un, .un, .un, .un] : LS) = ℓ0 at *
    generalize dlst (dcons (dk (.int 0)) dnil) = tl at *
    generalize dv 0 = t0 at *
    have ha : arg tl ℓ0 = some (.ok (.d (.list [.int 0])) ℓ0) := by simp only [arg, hl]
    have h3 : d2 fAdd t0 tl ℓ0 = some (.ok (.fr (ns.map .int ++ [.int 0])) ℓ0) := by
      simp only [d2, bindE, hv, ha, peek, fAdd, if_pos h1]
    have h4 : arg (d2 fAdd t0 tl) ℓ0 = some (.ok (.d (.list (ns.map .int ++ [.int 0]))) ℓ0) := by simp only [arg, h3]
    generalize d2 fAdd t0 tl = t9 at *
    have h6 : arg (dk (.int 64)) ℓ0 = some (.ok (.d (.int 64)) ℓ0) := rfl
    have h5 : dsl t9 none (some (dk (.int 64))) ℓ0 = some (.ok (.fr ((ns ++ [0]).map .int)) ℓ0) := by
      simp only [dsl, dpt, bindE, h4, h6, peek, fSl, hc]
    simp only [dit, arg, h5, keepW, items]
  obtain ⟨b1, b2, b3, b4, b5, b6, b7, b8, b9, b10, b11, b12, e⟩ := law_loop (.im (.list (ns.map .int))) _ (fun c => body_ok (.im (.list (ns.map .int))) c) (ns ++ [0]) .un .un .un .un .un .un .un .un .un .un .un .un
  exact fs_nx (dfor_of es e) rfl
end K10

namespace K10
open PySem PySem.Spec PyProof.Rows L2 DL
def initOf1 : Stmt → Stmt
  | .ClassDef _ _ _ b _ _ _ _ _ _ _ => b.getD 0 (.Pass ⟨0, 0, 0, 0⟩)
  | s => s
abbrev initOf (i : Nat) : Stmt := initOf1 (top i)
theorem si_NoTable : FnScope ["self", "row"] ["self", "row"] (defScope (initOf 4)) := ⟨rfl, rfl, rfl, by decide +kernel, rfl, by decide +kernel, by decide +kernel⟩
set_option maxHeartbeats 0 in
theorem all_mk {l : PySem.W.OpenLaw} {w : World} {K : PySem.W.Frag} {h : Heap} {mg : Str → Option Value} {fa : Addr} (X : K.In h) (G : h.Ns mainGlobals mg) (hfa : mg "law" = some (.ref fa))
    {f_iswhole : Addr} {oc_iswhole kV_iswhole dc_iswhole pm_iswhole cd_iswhole ct_iswhole : Value} {od_iswhole an_iswhole : Option Addr} {sl_iswhole : Array (Option Value)}
    {f_divisor : Addr} {oc_divisor kV_divisor dc_divisor pm_divisor cd_divisor ct_divisor : Value} {od_divisor an_divisor : Option Addr} {sl_divisor : Array (Option Value)}
    {f_isnumber : Addr} {oc_isnumber kV_isnumber dc_isnumber pm_isnumber cd_isnumber ct_isnumber : Value} {od_isnumber an_isnumber : Option Addr} {sl_isnumber : Array (Option Value)}
    {f_shownumber : Addr} {oc_shownumber kV_shownumber dc_shownumber pm_shownumber cd_shownumber ct_shownumber : Value} {od_shownumber an_shownumber : Option Addr} {sl_shownumber : Array (Option Value)}
    {f_countof : Addr} {oc_countof kV_countof dc_countof pm_countof cd_countof ct_countof : Value} {od_countof an_countof : Option Addr} {sl_countof : Array (Option Value)}
    {f_topof : Addr} {oc_topof kV_topof dc_topof pm_topof cd_topof ct_topof : Value} {od_topof an_topof : Option Addr} {sl_topof : Array (Option Value)}
    {f_readnumber : Addr} {oc_readnumber kV_readnumber dc_readnumber pm_readnumber cd_readnumber ct_readnumber : Value} {od_readnumber an_readnumber : Option Addr} {sl_readnumber : Array (Option Value)}
    {f_istold : Addr} {oc_istold kV_istold dc_istold pm_istold cd_istold ct_istold : Value} {od_istold an_istold : Option Addr} {sl_istold : Array (Option Value)}
    {f_isleap : Addr} {oc_isleap kV_isleap dc_isleap pm_isleap cd_isleap ct_isleap : Value} {od_isleap an_isleap : Option Addr} {sl_isleap : Array (Option Value)}
    {f_lengthof : Addr} {oc_lengthof kV_lengthof dc_lengthof pm_lengthof cd_lengthof ct_lengthof : Value} {od_lengthof an_lengthof : Option Addr} {sl_lengthof : Array (Option Value)}
    {f_aheadof : Addr} {oc_aheadof kV_aheadof dc_aheadof pm_aheadof cd_aheadof ct_aheadof : Value} {od_aheadof an_aheadof : Option Addr} {sl_aheadof : Array (Option Value)}
    {f_isday : Addr} {oc_isday kV_isday dc_isday pm_isday cd_isday ct_isday : Value} {od_isday an_isday : Option Addr} {sl_isday : Array (Option Value)}
    {f_istoldday : Addr} {oc_istoldday kV_istoldday dc_istoldday pm_istoldday cd_istoldday ct_istoldday : Value} {od_istoldday an_istoldday : Option Addr} {sl_istoldday : Array (Option Value)}
    {f_dayof : Addr} {oc_dayof kV_dayof dc_dayof pm_dayof cd_dayof ct_dayof : Value} {od_dayof an_dayof : Option Addr} {sl_dayof : Array (Option Value)}
    {f_partsof : Addr} {oc_partsof kV_partsof dc_partsof pm_partsof cd_partsof ct_partsof : Value} {od_partsof an_partsof : Option Addr} {sl_partsof : Array (Option Value)}
    {f_showday : Addr} {oc_showday kV_showday dc_showday pm_showday cd_showday ct_showday : Value} {od_showday an_showday : Option Addr} {sl_showday : Array (Option Value)}
    {f_readday : Addr} {oc_readday kV_readday dc_readday pm_readday cd_readday ct_readday : Value} {od_readday an_readday : Option Addr} {sl_readday : Array (Option Value)}
    {f_isword : Addr} {oc_isword kV_isword dc_isword pm_isword cd_isword ct_isword : Value} {od_isword an_isword : Option Addr} {sl_isword : Array (Option Value)}
    {f_iscell : Addr} {oc_iscell kV_iscell dc_iscell pm_iscell cd_iscell ct_iscell : Value} {od_iscell an_iscell : Option Addr} {sl_iscell : Array (Option Value)}
    {f_showcell : Addr} {oc_showcell kV_showcell dc_showcell pm_showcell cd_showcell ct_showcell : Value} {od_showcell an_showcell : Option Addr} {sl_showcell : Array (Option Value)}
    {f_cellby : Addr} {oc_cellby kV_cellby dc_cellby pm_cellby cd_cellby ct_cellby : Value} {od_cellby an_cellby : Option Addr} {sl_cellby : Array (Option Value)}
    {f_readcell : Addr} {oc_readcell kV_readcell dc_readcell pm_readcell cd_readcell ct_readcell : Value} {od_readcell an_readcell : Option Addr} {sl_readcell : Array (Option Value)}
    {f_Ldraws : Addr} {oc_Ldraws kV_Ldraws dc_Ldraws pm_Ldraws cd_Ldraws ct_Ldraws : Value} {od_Ldraws an_Ldraws : Option Addr} {sl_Ldraws : Array (Option Value)}
    {f_Lwhole : Addr} {oc_Lwhole kV_Lwhole dc_Lwhole pm_Lwhole cd_Lwhole ct_Lwhole : Value} {od_Lwhole an_Lwhole : Option Addr} {sl_Lwhole : Array (Option Value)}
    {f_Ldivisor : Addr} {oc_Ldivisor kV_Ldivisor dc_Ldivisor pm_Ldivisor cd_Ldivisor ct_Ldivisor : Value} {od_Ldivisor an_Ldivisor : Option Addr} {sl_Ldivisor : Array (Option Value)}
    {f_Llengths : Addr} {oc_Llengths kV_Llengths dc_Llengths pm_Llengths cd_Llengths ct_Llengths : Value} {od_Llengths an_Llengths : Option Addr} {sl_Llengths : Array (Option Value)}
    {f_Lnumber : Addr} {oc_Lnumber kV_Lnumber dc_Lnumber pm_Lnumber cd_Lnumber ct_Lnumber : Value} {od_Lnumber an_Lnumber : Option Addr} {sl_Lnumber : Array (Option Value)}
    {f_Lword : Addr} {oc_Lword kV_Lword dc_Lword pm_Lword cd_Lword ct_Lword : Value} {od_Lword an_Lword : Option Addr} {sl_Lword : Array (Option Value)}
    {f_Lday : Addr} {oc_Lday kV_Lday dc_Lday pm_Lday cd_Lday ct_Lday : Value} {od_Lday an_Lday : Option Addr} {sl_Lday : Array (Option Value)}
    {f_Lgood : Addr} {oc_Lgood kV_Lgood dc_Lgood pm_Lgood cd_Lgood ct_Lgood : Value} {od_Lgood an_Lgood : Option Addr} {sl_Lgood : Array (Option Value)}
    {f_Lfigures : Addr} {oc_Lfigures kV_Lfigures dc_Lfigures pm_Lfigures cd_Lfigures ct_Lfigures : Value} {od_Lfigures an_Lfigures : Option Addr} {sl_Lfigures : Array (Option Value)}
    {f_Lnumberby : Addr} {oc_Lnumberby kV_Lnumberby dc_Lnumberby pm_Lnumberby cd_Lnumberby ct_Lnumberby : Value} {od_Lnumberby an_Lnumberby : Option Addr} {sl_Lnumberby : Array (Option Value)}
    {f_Ldayby : Addr} {oc_Ldayby kV_Ldayby dc_Ldayby pm_Ldayby cd_Ldayby ct_Ldayby : Value} {od_Ldayby an_Ldayby : Option Addr} {sl_Ldayby : Array (Option Value)}
    {f_Lcellby : Addr} {oc_Lcellby kV_Lcellby dc_Lcellby pm_Lcellby cd_Lcellby ct_Lcellby : Value} {od_Lcellby an_Lcellby : Option Addr} {sl_Lcellby : Array (Option Value)}
    {f_Lmade : Addr} {oc_Lmade kV_Lmade dc_Lmade pm_Lmade cd_Lmade ct_Lmade : Value} {od_Lmade an_Lmade : Option Addr} {sl_Lmade : Array (Option Value)}
    {f_Lalike : Addr} {oc_Lalike kV_Lalike dc_Lalike pm_Lalike cd_Lalike ct_Lalike : Value} {od_Lalike an_Lalike : Option Addr} {sl_Lalike : Array (Option Value)}
    {f_Lrefused : Addr} {oc_Lrefused kV_Lrefused dc_Lrefused pm_Lrefused cd_Lrefused ct_Lrefused : Value} {od_Lrefused an_Lrefused : Option Addr} {sl_Lrefused : Array (Option Value)}
    {f_law : Addr} {oc_law kV_law dc_law pm_law cd_law ct_law : Value} {od_law an_law : Option Addr} {sl_law : Array (Option Value)}
    {t_FIGURES_days : Tok}
    {t_FIGURES_figures : Tok}
    {t_LAST : Tok}
    {t_LETTERS : Tok}
    {t_MOST : Tok}
    {C_MarkError : Addr}
    {C_NoNumber : Addr}
    {C_NoDay : Addr}
    {C_NoTable : Addr}
    {fi_NoTable : Addr} {nm_NoTable q_NoTable : Str} {N_NoTable : Addr} {bs_NoTable : List Value} {sn_NoTable : List Str} {sub_NoTable : List Value} {ab_NoTable : Bool} {col_NoTable : Option Bool} {dd_NoTable : Option Addr} {m0_NoTable m1_NoTable m2_NoTable m3_NoTable m5_NoTable : Option Value}
    {oc_NoTable kV_NoTable dc_NoTable pm_NoTable cd0_NoTable ct0_NoTable : Value} {od_NoTable an_NoTable : Option Addr} {sl_NoTable : Array (Option Value)}
    (a_iswhole : PySem.W.nsIn K mainGlobals "is_whole" = some (some (.ref f_iswhole)))
    (l_iswhole : K.lookup f_iswhole = some ⟨oc_iswhole, od_iswhole, .func (PySem.W.fnOf "is_whole" "is_whole" (defArgs s_iswhole) (defBody s_iswhole) (defScope s_iswhole) .none kV_iswhole dc_iswhole pm_iswhole an_iswhole cd_iswhole ct_iswhole), sl_iswhole⟩)
    (c_iswhole : PySem.W.codeIn K cd_iswhole "is_whole" = true)
    (k_iswhole : PySem.W.keepIn K (.ref f_iswhole) = true)
    (a_divisor : PySem.W.nsIn K mainGlobals "divisor" = some (some (.ref f_divisor)))
    (l_divisor : K.lookup f_divisor = some ⟨oc_divisor, od_divisor, .func (PySem.W.fnOf "divisor" "divisor" (defArgs s_divisor) (defBody s_divisor) (defScope s_divisor) .none kV_divisor dc_divisor pm_divisor an_divisor cd_divisor ct_divisor), sl_divisor⟩)
    (c_divisor : PySem.W.codeIn K cd_divisor "divisor" = true)
    (k_divisor : PySem.W.keepIn K (.ref f_divisor) = true)
    (a_isnumber : PySem.W.nsIn K mainGlobals "is_number" = some (some (.ref f_isnumber)))
    (l_isnumber : K.lookup f_isnumber = some ⟨oc_isnumber, od_isnumber, .func (PySem.W.fnOf "is_number" "is_number" (defArgs s_isnumber) (defBody s_isnumber) (defScope s_isnumber) .none kV_isnumber dc_isnumber pm_isnumber an_isnumber cd_isnumber ct_isnumber), sl_isnumber⟩)
    (c_isnumber : PySem.W.codeIn K cd_isnumber "is_number" = true)
    (k_isnumber : PySem.W.keepIn K (.ref f_isnumber) = true)
    (a_shownumber : PySem.W.nsIn K mainGlobals "show_number" = some (some (.ref f_shownumber)))
    (l_shownumber : K.lookup f_shownumber = some ⟨oc_shownumber, od_shownumber, .func (PySem.W.fnOf "show_number" "show_number" (defArgs s_shownumber) (defBody s_shownumber) (defScope s_shownumber) .none kV_shownumber dc_shownumber pm_shownumber an_shownumber cd_shownumber ct_shownumber), sl_shownumber⟩)
    (c_shownumber : PySem.W.codeIn K cd_shownumber "show_number" = true)
    (k_shownumber : PySem.W.keepIn K (.ref f_shownumber) = true)
    (a_countof : PySem.W.nsIn K mainGlobals "count_of" = some (some (.ref f_countof)))
    (l_countof : K.lookup f_countof = some ⟨oc_countof, od_countof, .func (PySem.W.fnOf "count_of" "count_of" (defArgs s_countof) (defBody s_countof) (defScope s_countof) .none kV_countof dc_countof pm_countof an_countof cd_countof ct_countof), sl_countof⟩)
    (c_countof : PySem.W.codeIn K cd_countof "count_of" = true)
    (k_countof : PySem.W.keepIn K (.ref f_countof) = true)
    (a_topof : PySem.W.nsIn K mainGlobals "top_of" = some (some (.ref f_topof)))
    (l_topof : K.lookup f_topof = some ⟨oc_topof, od_topof, .func (PySem.W.fnOf "top_of" "top_of" (defArgs s_topof) (defBody s_topof) (defScope s_topof) .none kV_topof dc_topof pm_topof an_topof cd_topof ct_topof), sl_topof⟩)
    (c_topof : PySem.W.codeIn K cd_topof "top_of" = true)
    (k_topof : PySem.W.keepIn K (.ref f_topof) = true)
    (a_readnumber : PySem.W.nsIn K mainGlobals "read_number" = some (some (.ref f_readnumber)))
    (l_readnumber : K.lookup f_readnumber = some ⟨oc_readnumber, od_readnumber, .func (PySem.W.fnOf "read_number" "read_number" (defArgs s_readnumber) (defBody s_readnumber) (defScope s_readnumber) .none kV_readnumber dc_readnumber pm_readnumber an_readnumber cd_readnumber ct_readnumber), sl_readnumber⟩)
    (c_readnumber : PySem.W.codeIn K cd_readnumber "read_number" = true)
    (k_readnumber : PySem.W.keepIn K (.ref f_readnumber) = true)
    (a_istold : PySem.W.nsIn K mainGlobals "is_told" = some (some (.ref f_istold)))
    (l_istold : K.lookup f_istold = some ⟨oc_istold, od_istold, .func (PySem.W.fnOf "is_told" "is_told" (defArgs s_istold) (defBody s_istold) (defScope s_istold) .none kV_istold dc_istold pm_istold an_istold cd_istold ct_istold), sl_istold⟩)
    (c_istold : PySem.W.codeIn K cd_istold "is_told" = true)
    (k_istold : PySem.W.keepIn K (.ref f_istold) = true)
    (a_isleap : PySem.W.nsIn K mainGlobals "is_leap" = some (some (.ref f_isleap)))
    (l_isleap : K.lookup f_isleap = some ⟨oc_isleap, od_isleap, .func (PySem.W.fnOf "is_leap" "is_leap" (defArgs s_isleap) (defBody s_isleap) (defScope s_isleap) .none kV_isleap dc_isleap pm_isleap an_isleap cd_isleap ct_isleap), sl_isleap⟩)
    (c_isleap : PySem.W.codeIn K cd_isleap "is_leap" = true)
    (k_isleap : PySem.W.keepIn K (.ref f_isleap) = true)
    (a_lengthof : PySem.W.nsIn K mainGlobals "length_of" = some (some (.ref f_lengthof)))
    (l_lengthof : K.lookup f_lengthof = some ⟨oc_lengthof, od_lengthof, .func (PySem.W.fnOf "length_of" "length_of" (defArgs s_lengthof) (defBody s_lengthof) (defScope s_lengthof) .none kV_lengthof dc_lengthof pm_lengthof an_lengthof cd_lengthof ct_lengthof), sl_lengthof⟩)
    (c_lengthof : PySem.W.codeIn K cd_lengthof "length_of" = true)
    (k_lengthof : PySem.W.keepIn K (.ref f_lengthof) = true)
    (a_aheadof : PySem.W.nsIn K mainGlobals "ahead_of" = some (some (.ref f_aheadof)))
    (l_aheadof : K.lookup f_aheadof = some ⟨oc_aheadof, od_aheadof, .func (PySem.W.fnOf "ahead_of" "ahead_of" (defArgs s_aheadof) (defBody s_aheadof) (defScope s_aheadof) .none kV_aheadof dc_aheadof pm_aheadof an_aheadof cd_aheadof ct_aheadof), sl_aheadof⟩)
    (c_aheadof : PySem.W.codeIn K cd_aheadof "ahead_of" = true)
    (k_aheadof : PySem.W.keepIn K (.ref f_aheadof) = true)
    (a_isday : PySem.W.nsIn K mainGlobals "is_day" = some (some (.ref f_isday)))
    (l_isday : K.lookup f_isday = some ⟨oc_isday, od_isday, .func (PySem.W.fnOf "is_day" "is_day" (defArgs s_isday) (defBody s_isday) (defScope s_isday) .none kV_isday dc_isday pm_isday an_isday cd_isday ct_isday), sl_isday⟩)
    (c_isday : PySem.W.codeIn K cd_isday "is_day" = true)
    (k_isday : PySem.W.keepIn K (.ref f_isday) = true)
    (a_istoldday : PySem.W.nsIn K mainGlobals "is_told_day" = some (some (.ref f_istoldday)))
    (l_istoldday : K.lookup f_istoldday = some ⟨oc_istoldday, od_istoldday, .func (PySem.W.fnOf "is_told_day" "is_told_day" (defArgs s_istoldday) (defBody s_istoldday) (defScope s_istoldday) .none kV_istoldday dc_istoldday pm_istoldday an_istoldday cd_istoldday ct_istoldday), sl_istoldday⟩)
    (c_istoldday : PySem.W.codeIn K cd_istoldday "is_told_day" = true)
    (k_istoldday : PySem.W.keepIn K (.ref f_istoldday) = true)
    (a_dayof : PySem.W.nsIn K mainGlobals "day_of" = some (some (.ref f_dayof)))
    (l_dayof : K.lookup f_dayof = some ⟨oc_dayof, od_dayof, .func (PySem.W.fnOf "day_of" "day_of" (defArgs s_dayof) (defBody s_dayof) (defScope s_dayof) .none kV_dayof dc_dayof pm_dayof an_dayof cd_dayof ct_dayof), sl_dayof⟩)
    (c_dayof : PySem.W.codeIn K cd_dayof "day_of" = true)
    (k_dayof : PySem.W.keepIn K (.ref f_dayof) = true)
    (a_partsof : PySem.W.nsIn K mainGlobals "parts_of" = some (some (.ref f_partsof)))
    (l_partsof : K.lookup f_partsof = some ⟨oc_partsof, od_partsof, .func (PySem.W.fnOf "parts_of" "parts_of" (defArgs s_partsof) (defBody s_partsof) (defScope s_partsof) .none kV_partsof dc_partsof pm_partsof an_partsof cd_partsof ct_partsof), sl_partsof⟩)
    (c_partsof : PySem.W.codeIn K cd_partsof "parts_of" = true)
    (k_partsof : PySem.W.keepIn K (.ref f_partsof) = true)
    (a_showday : PySem.W.nsIn K mainGlobals "show_day" = some (some (.ref f_showday)))
    (l_showday : K.lookup f_showday = some ⟨oc_showday, od_showday, .func (PySem.W.fnOf "show_day" "show_day" (defArgs s_showday) (defBody s_showday) (defScope s_showday) .none kV_showday dc_showday pm_showday an_showday cd_showday ct_showday), sl_showday⟩)
    (c_showday : PySem.W.codeIn K cd_showday "show_day" = true)
    (k_showday : PySem.W.keepIn K (.ref f_showday) = true)
    (a_readday : PySem.W.nsIn K mainGlobals "read_day" = some (some (.ref f_readday)))
    (l_readday : K.lookup f_readday = some ⟨oc_readday, od_readday, .func (PySem.W.fnOf "read_day" "read_day" (defArgs s_readday) (defBody s_readday) (defScope s_readday) .none kV_readday dc_readday pm_readday an_readday cd_readday ct_readday), sl_readday⟩)
    (c_readday : PySem.W.codeIn K cd_readday "read_day" = true)
    (k_readday : PySem.W.keepIn K (.ref f_readday) = true)
    (a_isword : PySem.W.nsIn K mainGlobals "is_word" = some (some (.ref f_isword)))
    (l_isword : K.lookup f_isword = some ⟨oc_isword, od_isword, .func (PySem.W.fnOf "is_word" "is_word" (defArgs s_isword) (defBody s_isword) (defScope s_isword) .none kV_isword dc_isword pm_isword an_isword cd_isword ct_isword), sl_isword⟩)
    (c_isword : PySem.W.codeIn K cd_isword "is_word" = true)
    (k_isword : PySem.W.keepIn K (.ref f_isword) = true)
    (a_iscell : PySem.W.nsIn K mainGlobals "is_cell" = some (some (.ref f_iscell)))
    (l_iscell : K.lookup f_iscell = some ⟨oc_iscell, od_iscell, .func (PySem.W.fnOf "is_cell" "is_cell" (defArgs s_iscell) (defBody s_iscell) (defScope s_iscell) .none kV_iscell dc_iscell pm_iscell an_iscell cd_iscell ct_iscell), sl_iscell⟩)
    (c_iscell : PySem.W.codeIn K cd_iscell "is_cell" = true)
    (k_iscell : PySem.W.keepIn K (.ref f_iscell) = true)
    (a_showcell : PySem.W.nsIn K mainGlobals "show_cell" = some (some (.ref f_showcell)))
    (l_showcell : K.lookup f_showcell = some ⟨oc_showcell, od_showcell, .func (PySem.W.fnOf "show_cell" "show_cell" (defArgs s_showcell) (defBody s_showcell) (defScope s_showcell) .none kV_showcell dc_showcell pm_showcell an_showcell cd_showcell ct_showcell), sl_showcell⟩)
    (c_showcell : PySem.W.codeIn K cd_showcell "show_cell" = true)
    (k_showcell : PySem.W.keepIn K (.ref f_showcell) = true)
    (a_cellby : PySem.W.nsIn K mainGlobals "cell_by" = some (some (.ref f_cellby)))
    (l_cellby : K.lookup f_cellby = some ⟨oc_cellby, od_cellby, .func (PySem.W.fnOf "cell_by" "cell_by" (defArgs s_cellby) (defBody s_cellby) (defScope s_cellby) .none kV_cellby dc_cellby pm_cellby an_cellby cd_cellby ct_cellby), sl_cellby⟩)
    (c_cellby : PySem.W.codeIn K cd_cellby "cell_by" = true)
    (k_cellby : PySem.W.keepIn K (.ref f_cellby) = true)
    (a_readcell : PySem.W.nsIn K mainGlobals "read_cell" = some (some (.ref f_readcell)))
    (l_readcell : K.lookup f_readcell = some ⟨oc_readcell, od_readcell, .func (PySem.W.fnOf "read_cell" "read_cell" (defArgs s_readcell) (defBody s_readcell) (defScope s_readcell) .none kV_readcell dc_readcell pm_readcell an_readcell cd_readcell ct_readcell), sl_readcell⟩)
    (c_readcell : PySem.W.codeIn K cd_readcell "read_cell" = true)
    (k_readcell : PySem.W.keepIn K (.ref f_readcell) = true)
    (a_Ldraws : PySem.W.nsIn K mainGlobals "_law_draws" = some (some (.ref f_Ldraws)))
    (l_Ldraws : K.lookup f_Ldraws = some ⟨oc_Ldraws, od_Ldraws, .func (PySem.W.fnOf "_law_draws" "_law_draws" (defArgs s_Ldraws) (defBody s_Ldraws) (defScope s_Ldraws) .none kV_Ldraws dc_Ldraws pm_Ldraws an_Ldraws cd_Ldraws ct_Ldraws), sl_Ldraws⟩)
    (c_Ldraws : PySem.W.codeIn K cd_Ldraws "_law_draws" = true)
    (k_Ldraws : PySem.W.keepIn K (.ref f_Ldraws) = true)
    (a_Lwhole : PySem.W.nsIn K mainGlobals "_law_whole" = some (some (.ref f_Lwhole)))
    (l_Lwhole : K.lookup f_Lwhole = some ⟨oc_Lwhole, od_Lwhole, .func (PySem.W.fnOf "_law_whole" "_law_whole" (defArgs s_Lwhole) (defBody s_Lwhole) (defScope s_Lwhole) .none kV_Lwhole dc_Lwhole pm_Lwhole an_Lwhole cd_Lwhole ct_Lwhole), sl_Lwhole⟩)
    (c_Lwhole : PySem.W.codeIn K cd_Lwhole "_law_whole" = true)
    (k_Lwhole : PySem.W.keepIn K (.ref f_Lwhole) = true)
    (a_Ldivisor : PySem.W.nsIn K mainGlobals "_law_divisor" = some (some (.ref f_Ldivisor)))
    (l_Ldivisor : K.lookup f_Ldivisor = some ⟨oc_Ldivisor, od_Ldivisor, .func (PySem.W.fnOf "_law_divisor" "_law_divisor" (defArgs s_Ldivisor) (defBody s_Ldivisor) (defScope s_Ldivisor) .none kV_Ldivisor dc_Ldivisor pm_Ldivisor an_Ldivisor cd_Ldivisor ct_Ldivisor), sl_Ldivisor⟩)
    (c_Ldivisor : PySem.W.codeIn K cd_Ldivisor "_law_divisor" = true)
    (k_Ldivisor : PySem.W.keepIn K (.ref f_Ldivisor) = true)
    (a_Llengths : PySem.W.nsIn K mainGlobals "_law_lengths" = some (some (.ref f_Llengths)))
    (l_Llengths : K.lookup f_Llengths = some ⟨oc_Llengths, od_Llengths, .func (PySem.W.fnOf "_law_lengths" "_law_lengths" (defArgs s_Llengths) (defBody s_Llengths) (defScope s_Llengths) .none kV_Llengths dc_Llengths pm_Llengths an_Llengths cd_Llengths ct_Llengths), sl_Llengths⟩)
    (c_Llengths : PySem.W.codeIn K cd_Llengths "_law_lengths" = true)
    (k_Llengths : PySem.W.keepIn K (.ref f_Llengths) = true)
    (a_Lnumber : PySem.W.nsIn K mainGlobals "_law_number" = some (some (.ref f_Lnumber)))
    (l_Lnumber : K.lookup f_Lnumber = some ⟨oc_Lnumber, od_Lnumber, .func (PySem.W.fnOf "_law_number" "_law_number" (defArgs s_Lnumber) (defBody s_Lnumber) (defScope s_Lnumber) .none kV_Lnumber dc_Lnumber pm_Lnumber an_Lnumber cd_Lnumber ct_Lnumber), sl_Lnumber⟩)
    (c_Lnumber : PySem.W.codeIn K cd_Lnumber "_law_number" = true)
    (k_Lnumber : PySem.W.keepIn K (.ref f_Lnumber) = true)
    (a_Lword : PySem.W.nsIn K mainGlobals "_law_word" = some (some (.ref f_Lword)))
    (l_Lword : K.lookup f_Lword = some ⟨oc_Lword, od_Lword, .func (PySem.W.fnOf "_law_word" "_law_word" (defArgs s_Lword) (defBody s_Lword) (defScope s_Lword) .none kV_Lword dc_Lword pm_Lword an_Lword cd_Lword ct_Lword), sl_Lword⟩)
    (c_Lword : PySem.W.codeIn K cd_Lword "_law_word" = true)
    (k_Lword : PySem.W.keepIn K (.ref f_Lword) = true)
    (a_Lday : PySem.W.nsIn K mainGlobals "_law_day" = some (some (.ref f_Lday)))
    (l_Lday : K.lookup f_Lday = some ⟨oc_Lday, od_Lday, .func (PySem.W.fnOf "_law_day" "_law_day" (defArgs s_Lday) (defBody s_Lday) (defScope s_Lday) .none kV_Lday dc_Lday pm_Lday an_Lday cd_Lday ct_Lday), sl_Lday⟩)
    (c_Lday : PySem.W.codeIn K cd_Lday "_law_day" = true)
    (k_Lday : PySem.W.keepIn K (.ref f_Lday) = true)
    (a_Lgood : PySem.W.nsIn K mainGlobals "_law_good" = some (some (.ref f_Lgood)))
    (l_Lgood : K.lookup f_Lgood = some ⟨oc_Lgood, od_Lgood, .func (PySem.W.fnOf "_law_good" "_law_good" (defArgs s_Lgood) (defBody s_Lgood) (defScope s_Lgood) .none kV_Lgood dc_Lgood pm_Lgood an_Lgood cd_Lgood ct_Lgood), sl_Lgood⟩)
    (c_Lgood : PySem.W.codeIn K cd_Lgood "_law_good" = true)
    (k_Lgood : PySem.W.keepIn K (.ref f_Lgood) = true)
    (a_Lfigures : PySem.W.nsIn K mainGlobals "_law_figures" = some (some (.ref f_Lfigures)))
    (l_Lfigures : K.lookup f_Lfigures = some ⟨oc_Lfigures, od_Lfigures, .func (PySem.W.fnOf "_law_figures" "_law_figures" (defArgs s_Lfigures) (defBody s_Lfigures) (defScope s_Lfigures) .none kV_Lfigures dc_Lfigures pm_Lfigures an_Lfigures cd_Lfigures ct_Lfigures), sl_Lfigures⟩)
    (c_Lfigures : PySem.W.codeIn K cd_Lfigures "_law_figures" = true)
    (k_Lfigures : PySem.W.keepIn K (.ref f_Lfigures) = true)
    (a_Lnumberby : PySem.W.nsIn K mainGlobals "_law_number_by" = some (some (.ref f_Lnumberby)))
    (l_Lnumberby : K.lookup f_Lnumberby = some ⟨oc_Lnumberby, od_Lnumberby, .func (PySem.W.fnOf "_law_number_by" "_law_number_by" (defArgs s_Lnumberby) (defBody s_Lnumberby) (defScope s_Lnumberby) .none kV_Lnumberby dc_Lnumberby pm_Lnumberby an_Lnumberby cd_Lnumberby ct_Lnumberby), sl_Lnumberby⟩)
    (c_Lnumberby : PySem.W.codeIn K cd_Lnumberby "_law_number_by" = true)
    (k_Lnumberby : PySem.W.keepIn K (.ref f_Lnumberby) = true)
    (a_Ldayby : PySem.W.nsIn K mainGlobals "_law_day_by" = some (some (.ref f_Ldayby)))
    (l_Ldayby : K.lookup f_Ldayby = some ⟨oc_Ldayby, od_Ldayby, .func (PySem.W.fnOf "_law_day_by" "_law_day_by" (defArgs s_Ldayby) (defBody s_Ldayby) (defScope s_Ldayby) .none kV_Ldayby dc_Ldayby pm_Ldayby an_Ldayby cd_Ldayby ct_Ldayby), sl_Ldayby⟩)
    (c_Ldayby : PySem.W.codeIn K cd_Ldayby "_law_day_by" = true)
    (k_Ldayby : PySem.W.keepIn K (.ref f_Ldayby) = true)
    (a_Lcellby : PySem.W.nsIn K mainGlobals "_law_cell_by" = some (some (.ref f_Lcellby)))
    (l_Lcellby : K.lookup f_Lcellby = some ⟨oc_Lcellby, od_Lcellby, .func (PySem.W.fnOf "_law_cell_by" "_law_cell_by" (defArgs s_Lcellby) (defBody s_Lcellby) (defScope s_Lcellby) .none kV_Lcellby dc_Lcellby pm_Lcellby an_Lcellby cd_Lcellby ct_Lcellby), sl_Lcellby⟩)
    (c_Lcellby : PySem.W.codeIn K cd_Lcellby "_law_cell_by" = true)
    (k_Lcellby : PySem.W.keepIn K (.ref f_Lcellby) = true)
    (a_Lmade : PySem.W.nsIn K mainGlobals "_law_made" = some (some (.ref f_Lmade)))
    (l_Lmade : K.lookup f_Lmade = some ⟨oc_Lmade, od_Lmade, .func (PySem.W.fnOf "_law_made" "_law_made" (defArgs s_Lmade) (defBody s_Lmade) (defScope s_Lmade) .none kV_Lmade dc_Lmade pm_Lmade an_Lmade cd_Lmade ct_Lmade), sl_Lmade⟩)
    (c_Lmade : PySem.W.codeIn K cd_Lmade "_law_made" = true)
    (k_Lmade : PySem.W.keepIn K (.ref f_Lmade) = true)
    (a_Lalike : PySem.W.nsIn K mainGlobals "_law_alike" = some (some (.ref f_Lalike)))
    (l_Lalike : K.lookup f_Lalike = some ⟨oc_Lalike, od_Lalike, .func (PySem.W.fnOf "_law_alike" "_law_alike" (defArgs s_Lalike) (defBody s_Lalike) (defScope s_Lalike) .none kV_Lalike dc_Lalike pm_Lalike an_Lalike cd_Lalike ct_Lalike), sl_Lalike⟩)
    (c_Lalike : PySem.W.codeIn K cd_Lalike "_law_alike" = true)
    (k_Lalike : PySem.W.keepIn K (.ref f_Lalike) = true)
    (a_Lrefused : PySem.W.nsIn K mainGlobals "_law_refused" = some (some (.ref f_Lrefused)))
    (l_Lrefused : K.lookup f_Lrefused = some ⟨oc_Lrefused, od_Lrefused, .func (PySem.W.fnOf "_law_refused" "_law_refused" (defArgs s_Lrefused) (defBody s_Lrefused) (defScope s_Lrefused) .none kV_Lrefused dc_Lrefused pm_Lrefused an_Lrefused cd_Lrefused ct_Lrefused), sl_Lrefused⟩)
    (c_Lrefused : PySem.W.codeIn K cd_Lrefused "_law_refused" = true)
    (k_Lrefused : PySem.W.keepIn K (.ref f_Lrefused) = true)
    (a_law : PySem.W.nsIn K mainGlobals "law" = some (some (.ref f_law)))
    (l_law : K.lookup f_law = some ⟨oc_law, od_law, .func (PySem.W.fnOf "law" "law" (defArgs s_law) (defBody s_law) (defScope s_law) .none kV_law dc_law pm_law an_law cd_law ct_law), sl_law⟩)
    (c_law : PySem.W.codeIn K cd_law "law" = true)
    (k_law : PySem.W.keepIn K (.ref f_law) = true)
    (z_ValueError : PySem.W.nsIn K mainGlobals "ValueError" = some none)
    (z_abs : PySem.W.nsIn K mainGlobals "abs" = some none)
    (z_all : PySem.W.nsIn K mainGlobals "all" = some none)
    (z_bool : PySem.W.nsIn K mainGlobals "bool" = some none)
    (z_int : PySem.W.nsIn K mainGlobals "int" = some none)
    (z_isinstance : PySem.W.nsIn K mainGlobals "isinstance" = some none)
    (z_len : PySem.W.nsIn K mainGlobals "len" = some none)
    (z_range : PySem.W.nsIn K mainGlobals "range" = some none)
    (z_str : PySem.W.nsIn K mainGlobals "str" = some none)
    (z_sum : PySem.W.nsIn K mainGlobals "sum" = some none)
    (z_tuple : PySem.W.nsIn K mainGlobals "tuple" = some none)
    (g_FIGURES_days : PySem.W.nsIn K mainGlobals "FIGURES_days" = some (some (.str "0123456789" t_FIGURES_days)))
    (g_FIGURES_figures : PySem.W.nsIn K mainGlobals "FIGURES_figures" = some (some (.str "0123456789" t_FIGURES_figures)))
    (g_LAST : PySem.W.nsIn K mainGlobals "LAST" = some (some (.int 3652058 t_LAST)))
    (g_LETTERS : PySem.W.nsIn K mainGlobals "LETTERS" = some (some (.str "abcdefghijklmnopqrstuvwxyz" t_LETTERS)))
    (g_MOST : PySem.W.nsIn K mainGlobals "MOST" = some (some (.int 60 t_MOST)))
    (ca_MarkError : PySem.W.nsIn K mainGlobals "MarkError" = some (some (.ref C_MarkError)))
    (ce_MarkError : PySem.W.subIn K (.ref C_MarkError) (.type "BaseException") = some true)
    (ct_MarkError : PySem.W.typeIn K (.ref C_MarkError) = some (.type "type"))
    (cd_MarkError : PySem.W.hasDictIn K C_MarkError = true)
    (ca_NoNumber : PySem.W.nsIn K mainGlobals "NoNumber" = some (some (.ref C_NoNumber)))
    (ce_NoNumber : PySem.W.subIn K (.ref C_NoNumber) (.type "BaseException") = some true)
    (ct_NoNumber : PySem.W.typeIn K (.ref C_NoNumber) = some (.type "type"))
    (cd_NoNumber : PySem.W.hasDictIn K C_NoNumber = true)
    (ca_NoDay : PySem.W.nsIn K mainGlobals "NoDay" = some (some (.ref C_NoDay)))
    (ce_NoDay : PySem.W.subIn K (.ref C_NoDay) (.type "BaseException") = some true)
    (ct_NoDay : PySem.W.typeIn K (.ref C_NoDay) = some (.type "type"))
    (cd_NoDay : PySem.W.hasDictIn K C_NoDay = true)
    (ca_NoTable : PySem.W.nsIn K mainGlobals "NoTable" = some (some (.ref C_NoTable)))
    (ce_NoTable : PySem.W.subIn K (.ref C_NoTable) (.type "BaseException") = some true)
    (ct_NoTable : PySem.W.typeIn K (.ref C_NoTable) = some (.type "type"))
    (cd_NoTable : PySem.W.hasDictIn K C_NoTable = true)
    (ck_NoDay : PySem.W.keepIn K (.ref C_NoDay) = true)
    (xx_NoDay : PySem.W.excIn K C_NoDay [.type "ValueError", .type "Exception", .type "BaseException", .type "object"] "ValueError.__new__" = true)
    (ga_NoDay : PySem.W.findIn K (.ref C_NoDay) "__getattribute__" = some (some (.builtin "BaseException.__getattribute__")))
    (gg_NoDay : PySem.W.findIn K (.ref C_NoDay) "__getattr__" = some none)
    (gc_NoDay : PySem.W.findIn K (.ref C_NoDay) "__class__" = some (some (.builtin "object.__class__")))
    (gm_NoDay : PySem.W.mroIn K C_NoDay (.type "object") = some true)
    (ss_NoDay : PySem.W.subIn K (.ref C_NoDay) (.ref C_NoDay) = some true)
    (su_NoDay_NoNumber : PySem.W.subIn K (.ref C_NoDay) (.ref C_NoNumber) = some false)
    (su_NoDay_NoTable : PySem.W.subIn K (.ref C_NoDay) (.ref C_NoTable) = some false)
    (su_NoDay_MarkError : PySem.W.subIn K (.ref C_NoDay) (.ref C_MarkError) = some true)
    (sv_NoDay_ValueError : PySem.W.subIn K (.ref C_NoDay) (.type "ValueError") = some true)
    (ck_NoNumber : PySem.W.keepIn K (.ref C_NoNumber) = true)
    (xx_NoNumber : PySem.W.excIn K C_NoNumber [.type "ValueError", .type "Exception", .type "BaseException", .type "object"] "ValueError.__new__" = true)
    (ga_NoNumber : PySem.W.findIn K (.ref C_NoNumber) "__getattribute__" = some (some (.builtin "BaseException.__getattribute__")))
    (gg_NoNumber : PySem.W.findIn K (.ref C_NoNumber) "__getattr__" = some none)
    (gc_NoNumber : PySem.W.findIn K (.ref C_NoNumber) "__class__" = some (some (.builtin "object.__class__")))
    (gm_NoNumber : PySem.W.mroIn K C_NoNumber (.type "object") = some true)
    (ss_NoNumber : PySem.W.subIn K (.ref C_NoNumber) (.ref C_NoNumber) = some true)
    (su_NoNumber_NoDay : PySem.W.subIn K (.ref C_NoNumber) (.ref C_NoDay) = some false)
    (su_NoNumber_NoTable : PySem.W.subIn K (.ref C_NoNumber) (.ref C_NoTable) = some false)
    (su_NoNumber_MarkError : PySem.W.subIn K (.ref C_NoNumber) (.ref C_MarkError) = some true)
    (sv_NoNumber_ValueError : PySem.W.subIn K (.ref C_NoNumber) (.type "ValueError") = some true)
    (ck_NoTable : PySem.W.keepIn K (.ref C_NoTable) = true)
    (xl_NoTable : K.lookup C_NoTable = some (excClassObj nm_NoTable q_NoTable C_NoTable N_NoTable bs_NoTable [.ref C_MarkError, .type "ValueError", .type "Exception", .type "BaseException", .type "object"] true sn_NoTable sub_NoTable ab_NoTable col_NoTable dd_NoTable m0_NoTable m1_NoTable m2_NoTable m3_NoTable m5_NoTable "ValueError.__new__"))
    (xs_NoTable : PySem.W.findIn K (.ref C_NoTable) "__setattr__" = some (some (.builtin "object.__setattr__")))
    (xn_NoTable : PySem.W.findIn K (.ref C_NoTable) "row" = some none)
    (xi_NoTable : PySem.W.findIn K (.ref C_NoTable) "__init__" = some (some (.ref fi_NoTable)))
    (xt_NoTable : PySem.W.typeIn K (.ref fi_NoTable) = some (.type "function"))
    (xf_NoTable : K.lookup fi_NoTable = some ⟨oc_NoTable, od_NoTable, .func (PySem.W.fnOf "__init__" "NoTable.__init__" (defArgs (initOf 4)) (defBody (initOf 4)) (defScope (initOf 4)) .none kV_NoTable dc_NoTable pm_NoTable an_NoTable cd0_NoTable ct0_NoTable), sl_NoTable⟩)
    (xc_NoTable : PySem.W.codeIn K cd0_NoTable "NoTable.__init__" = true)
    (xk_NoTable : PySem.W.keepIn K (.ref fi_NoTable) = true)
    (ga_NoTable : PySem.W.findIn K (.ref C_NoTable) "__getattribute__" = some (some (.builtin "BaseException.__getattribute__")))
    (gg_NoTable : PySem.W.findIn K (.ref C_NoTable) "__getattr__" = some none)
    (gc_NoTable : PySem.W.findIn K (.ref C_NoTable) "__class__" = some (some (.builtin "object.__class__")))
    (gm_NoTable : PySem.W.mroIn K C_NoTable (.type "object") = some true)
    (ss_NoTable : PySem.W.subIn K (.ref C_NoTable) (.ref C_NoTable) = some true)
    (su_NoTable_NoNumber : PySem.W.subIn K (.ref C_NoTable) (.ref C_NoNumber) = some false)
    (su_NoTable_NoDay : PySem.W.subIn K (.ref C_NoTable) (.ref C_NoDay) = some false)
    (su_NoTable_MarkError : PySem.W.subIn K (.ref C_NoTable) (.ref C_MarkError) = some true)
    (sv_NoTable_ValueError : PySem.W.subIn K (.ref C_NoTable) (.type "ValueError") = some true)
    (sp_ : PySem.W.specialIn K (.builtin "object.__class__") "__get__" = some (some (.builtin "getset_descriptor.__get__")))
    (tk_ : PySem.W.takesIn K (.builtin "object.__class__") = some true)
    : ∃ fd : FuncData, (∀ (s : Shared) (v : Value), BindsTo s fd ⟨[v], []⟩ [("_law_script", v)]) ∧ ∀ base : Heap, K.In base → base.Ns mainGlobals mg → FnOk l.prog w K mg base (L2.CX l.prog w) 8 fa fd ["_law_script"] (spLaw K m_law) := by
  have e := hfa.symm.trans (PySem.W.mg_of X G a_law)
  cases e
  have FL := L2.fun_mk (st := s_law) l_law c_law k_law
  refine ⟨PySem.W.fnOf "law" "law" (defArgs s_law) (defBody s_law) (defScope s_law) .none kV_law dc_law pm_law an_law cd_law ct_law, fun s v => .of_eq rfl, fun base hb hn => lawOk ?_⟩
  have m_MarkError := PySem.W.mg_of X G ca_MarkError
  have m_NoNumber := PySem.W.mg_of X G ca_NoNumber
  have m_NoDay := PySem.W.mg_of X G ca_NoDay
  have m_NoTable := PySem.W.mg_of X G ca_NoTable
  have U_NoTable : OexC K C_NoTable := ⟨⟨_, _, _, _, _, _, _, _, _, _, _, _, _, _, _, xl_NoTable, rfl⟩, xs_NoTable, ce_NoTable, ct_NoTable, ck_NoTable⟩
  have FI_NoTable := L2.fun_mk (st := initOf 4) xf_NoTable xc_NoTable xk_NoTable
  have V_NoDay : ExcC K C_NoDay := ⟨ga_NoDay, gg_NoDay, ce_NoDay, cd_NoDay, gc_NoDay, sp_, tk_, gm_NoDay⟩
  have ex_NoDay_NoNumber : PySem.W.exmOne K (.ref C_NoDay) (.ref C_NoNumber) = some false := PySem.W.exm_ref ce_NoNumber cd_NoNumber ct_NoNumber su_NoDay_NoNumber
  have ex_NoDay_NoDay : PySem.W.exmOne K (.ref C_NoDay) (.ref C_NoDay) = some true := PySem.W.exm_ref ce_NoDay cd_NoDay ct_NoDay ss_NoDay
  have ex_NoDay_NoTable : PySem.W.exmOne K (.ref C_NoDay) (.ref C_NoTable) = some false := PySem.W.exm_ref ce_NoTable cd_NoTable ct_NoTable su_NoDay_NoTable
  have ex_NoDay_MarkError : PySem.W.exmOne K (.ref C_NoDay) (.ref C_MarkError) = some true := PySem.W.exm_ref ce_MarkError cd_MarkError ct_MarkError su_NoDay_MarkError
  have V_NoNumber : ExcC K C_NoNumber := ⟨ga_NoNumber, gg_NoNumber, ce_NoNumber, cd_NoNumber, gc_NoNumber, sp_, tk_, gm_NoNumber⟩
  have ex_NoNumber_NoNumber : PySem.W.exmOne K (.ref C_NoNumber) (.ref C_NoNumber) = some true := PySem.W.exm_ref ce_NoNumber cd_NoNumber ct_NoNumber ss_NoNumber
  have ex_NoNumber_NoDay : PySem.W.exmOne K (.ref C_NoNumber) (.ref C_NoDay) = some false := PySem.W.exm_ref ce_NoDay cd_NoDay ct_NoDay su_NoNumber_NoDay
  have ex_NoNumber_NoTable : PySem.W.exmOne K (.ref C_NoNumber) (.ref C_NoTable) = some false := PySem.W.exm_ref ce_NoTable cd_NoTable ct_NoTable su_NoNumber_NoTable
  have ex_NoNumber_MarkError : PySem.W.exmOne K (.ref C_NoNumber) (.ref C_MarkError) = some true := PySem.W.exm_ref ce_MarkError cd_MarkError ct_MarkError su_NoNumber_MarkError
  have V_NoTable : ExcC K C_NoTable := ⟨ga_NoTable, gg_NoTable, ce_NoTable, cd_NoTable, gc_NoTable, sp_, tk_, gm_NoTable⟩
  have ex_NoTable_NoNumber : PySem.W.exmOne K (.ref C_NoTable) (.ref C_NoNumber) = some false := PySem.W.exm_ref ce_NoNumber cd_NoNumber ct_NoNumber su_NoTable_NoNumber
  have ex_NoTable_NoDay : PySem.W.exmOne K (.ref C_NoTable) (.ref C_NoDay) = some false := PySem.W.exm_ref ce_NoDay cd_NoDay ct_NoDay su_NoTable_NoDay
  have ex_NoTable_NoTable : PySem.W.exmOne K (.ref C_NoTable) (.ref C_NoTable) = some true := PySem.W.exm_ref ce_NoTable cd_NoTable ct_NoTable ss_NoTable
  have ex_NoTable_MarkError : PySem.W.exmOne K (.ref C_NoTable) (.ref C_MarkError) = some true := PySem.W.exm_ref ce_MarkError cd_MarkError ct_MarkError su_NoTable_MarkError
  have NA_NoNumber_NoDay : IsA mg (fun cls => PySem.W.exmAny K cls [.ref C_NoNumber, .ref C_NoDay]) isA_NoNumber_NoDay := by
    intro n C b hm hb
    unfold isA_NoNumber_NoDay at hb
    by_cases e_NoDay : n = "NoDay"
    · subst e_NoDay
      rw [if_pos rfl] at hb
      cases hb
      cases hm.symm.trans m_NoDay
      exact exm_two ex_NoDay_NoNumber ex_NoDay_NoDay
    rw [if_neg e_NoDay] at hb
    by_cases e_NoNumber : n = "NoNumber"
    · subst e_NoNumber
      rw [if_pos rfl] at hb
      cases hb
      cases hm.symm.trans m_NoNumber
      exact exm_two ex_NoNumber_NoNumber ex_NoNumber_NoDay
    rw [if_neg e_NoNumber] at hb
    by_cases e_NoTable : n = "NoTable"
    · subst e_NoTable
      rw [if_pos rfl] at hb
      cases hb
      cases hm.symm.trans m_NoTable
      exact exm_two ex_NoTable_NoNumber ex_NoTable_NoDay
    rw [if_neg e_NoTable] at hb
    cases hb
  have NA_NoTable : IsA mg (fun cls => PySem.W.exmOne K cls (.ref C_NoTable)) isA_NoTable := by
    intro n C b hm hb
    unfold isA_NoTable at hb
    by_cases e_NoDay : n = "NoDay"
    · subst e_NoDay
      rw [if_pos rfl] at hb
      cases hb
      cases hm.symm.trans m_NoDay
      exact ex_NoDay_NoTable
    rw [if_neg e_NoDay] at hb
    by_cases e_NoNumber : n = "NoNumber"
    · subst e_NoNumber
      rw [if_pos rfl] at hb
      cases hb
      cases hm.symm.trans m_NoNumber
      exact ex_NoNumber_NoTable
    rw [if_neg e_NoNumber] at hb
    by_cases e_NoTable : n = "NoTable"
    · subst e_NoTable
      rw [if_pos rfl] at hb
      cases hb
      cases hm.symm.trans m_NoTable
      exact ex_NoTable_NoTable
    rw [if_neg e_NoTable] at hb
    cases hb
  have NB_MarkError : IsB K mg (.ref C_MarkError) isB_MarkError := by
    intro n C b hm hb
    unfold isB_MarkError at hb
    by_cases e_NoDay : n = "NoDay"
    · subst e_NoDay
      rw [if_pos rfl] at hb
      cases hb
      cases hm.symm.trans m_NoDay
      exact ⟨V_NoDay, kit_own su_NoDay_MarkError ss_NoDay cd_MarkError ct_MarkError⟩
    rw [if_neg e_NoDay] at hb
    by_cases e_NoNumber : n = "NoNumber"
    · subst e_NoNumber
      rw [if_pos rfl] at hb
      cases hb
      cases hm.symm.trans m_NoNumber
      exact ⟨V_NoNumber, kit_own su_NoNumber_MarkError ss_NoNumber cd_MarkError ct_MarkError⟩
    rw [if_neg e_NoNumber] at hb
    by_cases e_NoTable : n = "NoTable"
    · subst e_NoTable
      rw [if_pos rfl] at hb
      cases hb
      cases hm.symm.trans m_NoTable
      exact ⟨V_NoTable, kit_own su_NoTable_MarkError ss_NoTable cd_MarkError ct_MarkError⟩
    rw [if_neg e_NoTable] at hb
    cases hb
  have NB_NoDay : IsB K mg (.ref C_NoDay) isB_NoDay := by
    intro n C b hm hb
    unfold isB_NoDay at hb
    by_cases e_NoDay : n = "NoDay"
    · subst e_NoDay
      rw [if_pos rfl] at hb
      cases hb
      cases hm.symm.trans m_NoDay
      exact ⟨V_NoDay, kit_own ss_NoDay ss_NoDay cd_NoDay ct_NoDay⟩
    rw [if_neg e_NoDay] at hb
    by_cases e_NoNumber : n = "NoNumber"
    · subst e_NoNumber
      rw [if_pos rfl] at hb
      cases hb
      cases hm.symm.trans m_NoNumber
      exact ⟨V_NoNumber, kit_own su_NoNumber_NoDay ss_NoNumber cd_NoDay ct_NoDay⟩
    rw [if_neg e_NoNumber] at hb
    by_cases e_NoTable : n = "NoTable"
    · subst e_NoTable
      rw [if_pos rfl] at hb
      cases hb
      cases hm.symm.trans m_NoTable
      exact ⟨V_NoTable, kit_own su_NoTable_NoDay ss_NoTable cd_NoDay ct_NoDay⟩
    rw [if_neg e_NoTable] at hb
    cases hb
  have NB_NoNumber : IsB K mg (.ref C_NoNumber) isB_NoNumber := by
    intro n C b hm hb
    unfold isB_NoNumber at hb
    by_cases e_NoDay : n = "NoDay"
    · subst e_NoDay
      rw [if_pos rfl] at hb
      cases hb
      cases hm.symm.trans m_NoDay
      exact ⟨V_NoDay, kit_own su_NoDay_NoNumber ss_NoDay cd_NoNumber ct_NoNumber⟩
    rw [if_neg e_NoDay] at hb
    by_cases e_NoNumber : n = "NoNumber"
    · subst e_NoNumber
      rw [if_pos rfl] at hb
      cases hb
      cases hm.symm.trans m_NoNumber
      exact ⟨V_NoNumber, kit_own ss_NoNumber ss_NoNumber cd_NoNumber ct_NoNumber⟩
    rw [if_neg e_NoNumber] at hb
    by_cases e_NoTable : n = "NoTable"
    · subst e_NoTable
      rw [if_pos rfl] at hb
      cases hb
      cases hm.symm.trans m_NoTable
      exact ⟨V_NoTable, kit_own su_NoTable_NoNumber ss_NoTable cd_NoNumber ct_NoNumber⟩
    rw [if_neg e_NoTable] at hb
    cases hb
  have NB_ValueError : IsB K mg (.type "ValueError") isB_ValueError := by
    intro n C b hm hb
    unfold isB_ValueError at hb
    by_cases e_NoDay : n = "NoDay"
    · subst e_NoDay
      rw [if_pos rfl] at hb
      cases hb
      cases hm.symm.trans m_NoDay
      exact ⟨V_NoDay, kit_bt (by decide +kernel) sv_NoDay_ValueError⟩
    rw [if_neg e_NoDay] at hb
    by_cases e_NoNumber : n = "NoNumber"
    · subst e_NoNumber
      rw [if_pos rfl] at hb
      cases hb
      cases hm.symm.trans m_NoNumber
      exact ⟨V_NoNumber, kit_bt (by decide +kernel) sv_NoNumber_ValueError⟩
    rw [if_neg e_NoNumber] at hb
    by_cases e_NoTable : n = "NoTable"
    · subst e_NoTable
      rw [if_pos rfl] at hb
      cases hb
      cases hm.symm.trans m_NoTable
      exact ⟨V_NoTable, kit_bt (by decide +kernel) sv_NoTable_ValueError⟩
    rw [if_neg e_NoTable] at hb
    cases hb
  have NF_row : IsF K mg "row" isF_row := by
    intro n C hm hb
    unfold isF_row at hb
    by_cases e_NoTable : n = "NoTable"
    · subst e_NoTable
      cases hm.symm.trans m_NoTable
      exact ⟨⟨ga_NoTable, gg_NoTable, ce_NoTable, cd_NoTable⟩, xn_NoTable⟩
    simp only [e_NoTable, decide_false, Bool.or_self, Bool.false_eq_true] at hb
  have Tx : Txt l.prog w K mg base := { b_ValueError := PySem.W.mg_none_of X G z_ValueError, b_abs := PySem.W.mg_none_of X G z_abs, b_all := PySem.W.mg_none_of X G z_all, b_bool := PySem.W.mg_none_of X G z_bool, b_int := PySem.W.mg_none_of X G z_int, b_isinstance := PySem.W.mg_none_of X G z_isinstance, b_len := PySem.W.mg_none_of X G z_len, b_range := PySem.W.mg_none_of X G z_range, b_str := PySem.W.mg_none_of X G z_str, b_sum := PySem.W.mg_none_of X G z_sum, b_tuple := PySem.W.mg_none_of X G z_tuple, g_FIGURES_days := ⟨_, PySem.W.mg_of X G g_FIGURES_days⟩, g_FIGURES_figures := ⟨_, PySem.W.mg_of X G g_FIGURES_figures⟩, g_LAST := ⟨_, PySem.W.mg_of X G g_LAST⟩, g_LETTERS := ⟨_, PySem.W.mg_of X G g_LETTERS⟩, g_MOST := ⟨_, PySem.W.mg_of X G g_MOST⟩, T_NoDay := ⟨C_NoDay, m_NoDay, xx_NoDay, ck_NoDay, ce_NoDay, ct_NoDay⟩, T_NoNumber := ⟨C_NoNumber, m_NoNumber, xx_NoNumber, ck_NoNumber, ce_NoNumber, ct_NoNumber⟩, X_NoTable := ⟨C_NoTable, fi_NoTable, _, _, m_NoTable, U_NoTable, xn_NoTable, xi_NoTable, xt_NoTable, init_fn FI_NoTable si_NoTable rfl (by decide) (by decide) (by decide) (by decide) (Or.inl rfl) (Or.inl rfl) (fun _ _ => rfl), init_fnH FI_NoTable si_NoTable rfl (by decide) (by decide) (by decide) (by decide) (Or.inl rfl) (Or.inl rfl) (fun _ _ => rfl), FI_NoTable.binds fun _ _ _ _ _ _ us hl => match us, hl with | [_, _], _ => rfl⟩, A0_NoNumber_NoDay := ⟨C_NoNumber, C_NoDay, m_NoNumber, m_NoDay, NA_NoNumber_NoDay⟩, N0_NoTable := ⟨C_NoTable, m_NoTable, NA_NoTable⟩, E0_MarkError := ⟨C_MarkError, m_MarkError, NB_MarkError⟩, E0_NoDay := ⟨C_NoDay, m_NoDay, NB_NoDay⟩, E0_NoNumber := ⟨C_NoNumber, m_NoNumber, NB_NoNumber⟩, B_ValueError := NB_ValueError, F_row := NF_row }
  have F_iswhole : Fdef K mg "is_whole" "is_whole" s_iswhole ["thing"] := ⟨_, _, L2.fun_mk (st := s_iswhole) l_iswhole c_iswhole k_iswhole, PySem.W.mg_of X G a_iswhole, (L2.fun_mk (st := s_iswhole) l_iswhole c_iswhole k_iswhole).binds fun _ _ _ _ _ _ us hl => match us, hl with | [_], _ => rfl⟩
  have D_iswhole := ok_iswhole Tx F_iswhole 
  have F_divisor : Fdef K mg "divisor" "divisor" s_divisor ["one", "other"] := ⟨_, _, L2.fun_mk (st := s_divisor) l_divisor c_divisor k_divisor, PySem.W.mg_of X G a_divisor, (L2.fun_mk (st := s_divisor) l_divisor c_divisor k_divisor).binds fun _ _ _ _ _ _ us hl => match us, hl with | [_, _], _ => rfl⟩
  have D_divisor := ok_divisor Tx F_divisor 
  have F_isnumber : Fdef K mg "is_number" "is_number" s_isnumber ["thing"] := ⟨_, _, L2.fun_mk (st := s_isnumber) l_isnumber c_isnumber k_isnumber, PySem.W.mg_of X G a_isnumber, (L2.fun_mk (st := s_isnumber) l_isnumber c_isnumber k_isnumber).binds fun _ _ _ _ _ _ us hl => match us, hl with | [_], _ => rfl⟩
  have D_isnumber := ok_isnumber Tx F_isnumber D_iswhole D_divisor
  have F_shownumber : Fdef K mg "show_number" "show_number" s_shownumber ["one"] := ⟨_, _, L2.fun_mk (st := s_shownumber) l_shownumber c_shownumber k_shownumber, PySem.W.mg_of X G a_shownumber, (L2.fun_mk (st := s_shownumber) l_shownumber c_shownumber k_shownumber).binds fun _ _ _ _ _ _ us hl => match us, hl with | [_], _ => rfl⟩
  have D_shownumber := ok_shownumber Tx F_shownumber 
  have F_countof : Fdef K mg "count_of" "count_of" s_countof ["text"] := ⟨_, _, L2.fun_mk (st := s_countof) l_countof c_countof k_countof, PySem.W.mg_of X G a_countof, (L2.fun_mk (st := s_countof) l_countof c_countof k_countof).binds fun _ _ _ _ _ _ us hl => match us, hl with | [_], _ => rfl⟩
  have D_countof := ok_countof Tx F_countof 
  have F_topof : Fdef K mg "top_of" "top_of" s_topof ["text"] := ⟨_, _, L2.fun_mk (st := s_topof) l_topof c_topof k_topof, PySem.W.mg_of X G a_topof, (L2.fun_mk (st := s_topof) l_topof c_topof k_topof).binds fun _ _ _ _ _ _ us hl => match us, hl with | [_], _ => rfl⟩
  have D_topof := ok_topof Tx F_topof D_countof
  have F_readnumber : Fdef K mg "read_number" "read_number" s_readnumber ["text"] := ⟨_, _, L2.fun_mk (st := s_readnumber) l_readnumber c_readnumber k_readnumber, PySem.W.mg_of X G a_readnumber, (L2.fun_mk (st := s_readnumber) l_readnumber c_readnumber k_readnumber).binds fun _ _ _ _ _ _ us hl => match us, hl with | [_], _ => rfl⟩
  have D_readnumber := ok_readnumber Tx F_readnumber D_topof D_countof D_divisor
  have F_istold : Fdef K mg "is_told" "is_told" s_istold ["thing"] := ⟨_, _, L2.fun_mk (st := s_istold) l_istold c_istold k_istold, PySem.W.mg_of X G a_istold, (L2.fun_mk (st := s_istold) l_istold c_istold k_istold).binds fun _ _ _ _ _ _ us hl => match us, hl with | [_], _ => rfl⟩
  have D_istold := ok_istold Tx F_istold D_isnumber
  have F_isleap : Fdef K mg "is_leap" "is_leap" s_isleap ["year"] := ⟨_, _, L2.fun_mk (st := s_isleap) l_isleap c_isleap k_isleap, PySem.W.mg_of X G a_isleap, (L2.fun_mk (st := s_isleap) l_isleap c_isleap k_isleap).binds fun _ _ _ _ _ _ us hl => match us, hl with | [_], _ => rfl⟩
  have D_isleap := ok_isleap Tx F_isleap 
  have F_lengthof : Fdef K mg "length_of" "length_of" s_lengthof ["year", "month"] := ⟨_, _, L2.fun_mk (st := s_lengthof) l_lengthof c_lengthof k_lengthof, PySem.W.mg_of X G a_lengthof, (L2.fun_mk (st := s_lengthof) l_lengthof c_lengthof k_lengthof).binds fun _ _ _ _ _ _ us hl => match us, hl with | [_, _], _ => rfl⟩
  have D_lengthof := ok_lengthof Tx F_lengthof D_isleap
  have F_aheadof : Fdef K mg "ahead_of" "ahead_of" s_aheadof ["year"] := ⟨_, _, L2.fun_mk (st := s_aheadof) l_aheadof c_aheadof k_aheadof, PySem.W.mg_of X G a_aheadof, (L2.fun_mk (st := s_aheadof) l_aheadof c_aheadof k_aheadof).binds fun _ _ _ _ _ _ us hl => match us, hl with | [_], _ => rfl⟩
  have D_aheadof := ok_aheadof Tx F_aheadof 
  have F_isday : Fdef K mg "is_day" "is_day" s_isday ["thing"] := ⟨_, _, L2.fun_mk (st := s_isday) l_isday c_isday k_isday, PySem.W.mg_of X G a_isday, (L2.fun_mk (st := s_isday) l_isday c_isday k_isday).binds fun _ _ _ _ _ _ us hl => match us, hl with | [_], _ => rfl⟩
  have D_isday := ok_isday Tx F_isday D_iswhole
  have F_istoldday : Fdef K mg "is_told_day" "is_told_day" s_istoldday ["thing"] := ⟨_, _, L2.fun_mk (st := s_istoldday) l_istoldday c_istoldday k_istoldday, PySem.W.mg_of X G a_istoldday, (L2.fun_mk (st := s_istoldday) l_istoldday c_istoldday k_istoldday).binds fun _ _ _ _ _ _ us hl => match us, hl with | [_], _ => rfl⟩
  have D_istoldday := ok_istoldday Tx F_istoldday D_isday D_aheadof
  have F_dayof : Fdef K mg "day_of" "day_of" s_dayof ["year", "month", "day"] := ⟨_, _, L2.fun_mk (st := s_dayof) l_dayof c_dayof k_dayof, PySem.W.mg_of X G a_dayof, (L2.fun_mk (st := s_dayof) l_dayof c_dayof k_dayof).binds fun _ _ _ _ _ _ us hl => match us, hl with | [_, _, _], _ => rfl⟩
  have D_dayof := ok_dayof Tx F_dayof D_iswhole D_lengthof D_aheadof
  have F_partsof : Fdef K mg "parts_of" "parts_of" s_partsof ["day"] := ⟨_, _, L2.fun_mk (st := s_partsof) l_partsof c_partsof k_partsof, PySem.W.mg_of X G a_partsof, (L2.fun_mk (st := s_partsof) l_partsof c_partsof k_partsof).binds fun _ _ _ _ _ _ us hl => match us, hl with | [_], _ => rfl⟩
  have D_partsof := ok_partsof Tx F_partsof D_aheadof D_lengthof
  have F_showday : Fdef K mg "show_day" "show_day" s_showday ["day"] := ⟨_, _, L2.fun_mk (st := s_showday) l_showday c_showday k_showday, PySem.W.mg_of X G a_showday, (L2.fun_mk (st := s_showday) l_showday c_showday k_showday).binds fun _ _ _ _ _ _ us hl => match us, hl with | [_], _ => rfl⟩
  have D_showday := ok_showday Tx F_showday D_partsof
  have F_readday : Fdef K mg "read_day" "read_day" s_readday ["text"] := ⟨_, _, L2.fun_mk (st := s_readday) l_readday c_readday k_readday, PySem.W.mg_of X G a_readday, (L2.fun_mk (st := s_readday) l_readday c_readday k_readday).binds fun _ _ _ _ _ _ us hl => match us, hl with | [_], _ => rfl⟩
  have D_readday := ok_readday Tx F_readday D_dayof
  have F_isword : Fdef K mg "is_word" "is_word" s_isword ["thing"] := ⟨_, _, L2.fun_mk (st := s_isword) l_isword c_isword k_isword, PySem.W.mg_of X G a_isword, (L2.fun_mk (st := s_isword) l_isword c_isword k_isword).binds fun _ _ _ _ _ _ us hl => match us, hl with | [_], _ => rfl⟩
  have D_isword := ok_isword Tx F_isword 
  have F_iscell : Fdef K mg "is_cell" "is_cell" s_iscell ["kind", "thing"] := ⟨_, _, L2.fun_mk (st := s_iscell) l_iscell c_iscell k_iscell, PySem.W.mg_of X G a_iscell, (L2.fun_mk (st := s_iscell) l_iscell c_iscell k_iscell).binds fun _ _ _ _ _ _ us hl => match us, hl with | [_, _], _ => rfl⟩
  have D_iscell := ok_iscell Tx F_iscell D_istold D_isword D_istoldday
  have F_showcell : Fdef K mg "show_cell" "show_cell" s_showcell ["kind", "cell"] := ⟨_, _, L2.fun_mk (st := s_showcell) l_showcell c_showcell k_showcell, PySem.W.mg_of X G a_showcell, (L2.fun_mk (st := s_showcell) l_showcell c_showcell k_showcell).binds fun _ _ _ _ _ _ us hl => match us, hl with | [_, _], _ => rfl⟩
  have D_showcell := ok_showcell Tx F_showcell D_shownumber D_showday
  have F_cellby : Fdef K mg "cell_by" "cell_by" s_cellby ["kind", "text"] := ⟨_, _, L2.fun_mk (st := s_cellby) l_cellby c_cellby k_cellby, PySem.W.mg_of X G a_cellby, (L2.fun_mk (st := s_cellby) l_cellby c_cellby k_cellby).binds fun _ _ _ _ _ _ us hl => match us, hl with | [_, _], _ => rfl⟩
  have D_cellby := ok_cellby Tx F_cellby D_readnumber D_readday
  have F_readcell : Fdef K mg "read_cell" "read_cell" s_readcell ["kind", "text"] := ⟨_, _, L2.fun_mk (st := s_readcell) l_readcell c_readcell k_readcell, PySem.W.mg_of X G a_readcell, (L2.fun_mk (st := s_readcell) l_readcell c_readcell k_readcell).binds fun _ _ _ _ _ _ us hl => match us, hl with | [_, _], _ => rfl⟩
  have D_readcell := ok_readcell Tx F_readcell D_cellby D_iscell
  have F_Ldraws : Fdef K mg "_law_draws" "_law_draws" s_Ldraws ["_law_cell", "_law_tops"] := ⟨_, _, L2.fun_mk (st := s_Ldraws) l_Ldraws c_Ldraws k_Ldraws, PySem.W.mg_of X G a_Ldraws, (L2.fun_mk (st := s_Ldraws) l_Ldraws c_Ldraws k_Ldraws).binds fun _ _ _ _ _ _ us hl => match us, hl with | [_, _], _ => rfl⟩
  have D_Ldraws := ok_Ldraws Tx F_Ldraws 
  have F_Lwhole : Fdef K mg "_law_whole" "_law_whole" s_Lwhole ["_law_found"] := ⟨_, _, L2.fun_mk (st := s_Lwhole) l_Lwhole c_Lwhole k_Lwhole, PySem.W.mg_of X G a_Lwhole, (L2.fun_mk (st := s_Lwhole) l_Lwhole c_Lwhole k_Lwhole).binds fun _ _ _ _ _ _ us hl => match us, hl with | [_], _ => rfl⟩
  have D_Lwhole := ok_Lwhole Tx F_Lwhole 
  have F_Ldivisor : Fdef K mg "_law_divisor" "_law_divisor" s_Ldivisor ["_law_one", "_law_other"] := ⟨_, _, L2.fun_mk (st := s_Ldivisor) l_Ldivisor c_Ldivisor k_Ldivisor, PySem.W.mg_of X G a_Ldivisor, (L2.fun_mk (st := s_Ldivisor) l_Ldivisor c_Ldivisor k_Ldivisor).binds fun _ _ _ _ _ _ us hl => match us, hl with | [_, _], _ => rfl⟩
  have D_Ldivisor := ok_Ldivisor Tx F_Ldivisor 
  have F_Llengths : Fdef K mg "_law_lengths" "_law_lengths" s_Llengths ["_law_year"] := ⟨_, _, L2.fun_mk (st := s_Llengths) l_Llengths c_Llengths k_Llengths, PySem.W.mg_of X G a_Llengths, (L2.fun_mk (st := s_Llengths) l_Llengths c_Llengths k_Llengths).binds fun _ _ _ _ _ _ us hl => match us, hl with | [_], _ => rfl⟩
  have D_Llengths := ok_Llengths Tx F_Llengths 
  have F_Lnumber : Fdef K mg "_law_number" "_law_number" s_Lnumber ["_law_d"] := ⟨_, _, L2.fun_mk (st := s_Lnumber) l_Lnumber c_Lnumber k_Lnumber, PySem.W.mg_of X G a_Lnumber, (L2.fun_mk (st := s_Lnumber) l_Lnumber c_Lnumber k_Lnumber).binds fun _ _ _ _ _ _ us hl => match us, hl with | [_], _ => rfl⟩
  have D_Lnumber := ok_Lnumber Tx F_Lnumber D_Ldivisor
  have F_Lword : Fdef K mg "_law_word" "_law_word" s_Lword ["_law_d"] := ⟨_, _, L2.fun_mk (st := s_Lword) l_Lword c_Lword k_Lword, PySem.W.mg_of X G a_Lword, (L2.fun_mk (st := s_Lword) l_Lword c_Lword k_Lword).binds fun _ _ _ _ _ _ us hl => match us, hl with | [_], _ => rfl⟩
  have D_Lword := ok_Lword Tx F_Lword 
  have F_Lday : Fdef K mg "_law_day" "_law_day" s_Lday ["_law_d"] := ⟨_, _, L2.fun_mk (st := s_Lday) l_Lday c_Lday k_Lday, PySem.W.mg_of X G a_Lday, (L2.fun_mk (st := s_Lday) l_Lday c_Lday k_Lday).binds fun _ _ _ _ _ _ us hl => match us, hl with | [_], _ => rfl⟩
  have D_Lday := ok_Lday Tx F_Lday D_Llengths
  have F_Lgood : Fdef K mg "_law_good" "_law_good" s_Lgood ["_law_d"] := ⟨_, _, L2.fun_mk (st := s_Lgood) l_Lgood c_Lgood k_Lgood, PySem.W.mg_of X G a_Lgood, (L2.fun_mk (st := s_Lgood) l_Lgood c_Lgood k_Lgood).binds fun _ _ _ _ _ _ us hl => match us, hl with | [_], _ => rfl⟩
  have D_Lgood := ok_Lgood Tx F_Lgood D_Lnumber D_Lword D_Lday
  have F_Lfigures : Fdef K mg "_law_figures" "_law_figures" s_Lfigures ["_law_text"] := ⟨_, _, L2.fun_mk (st := s_Lfigures) l_Lfigures c_Lfigures k_Lfigures, PySem.W.mg_of X G a_Lfigures, (L2.fun_mk (st := s_Lfigures) l_Lfigures c_Lfigures k_Lfigures).binds fun _ _ _ _ _ _ us hl => match us, hl with | [_], _ => rfl⟩
  have D_Lfigures := ok_Lfigures Tx F_Lfigures 
  have F_Lnumberby : Fdef K mg "_law_number_by" "_law_number_by" s_Lnumberby ["_law_text"] := ⟨_, _, L2.fun_mk (st := s_Lnumberby) l_Lnumberby c_Lnumberby k_Lnumberby, PySem.W.mg_of X G a_Lnumberby, (L2.fun_mk (st := s_Lnumberby) l_Lnumberby c_Lnumberby k_Lnumberby).binds fun _ _ _ _ _ _ us hl => match us, hl with | [_], _ => rfl⟩
  have D_Lnumberby := ok_Lnumberby Tx F_Lnumberby D_Lfigures D_Ldivisor
  have F_Ldayby : Fdef K mg "_law_day_by" "_law_day_by" s_Ldayby ["_law_text"] := ⟨_, _, L2.fun_mk (st := s_Ldayby) l_Ldayby c_Ldayby k_Ldayby, PySem.W.mg_of X G a_Ldayby, (L2.fun_mk (st := s_Ldayby) l_Ldayby c_Ldayby k_Ldayby).binds fun _ _ _ _ _ _ us hl => match us, hl with | [_], _ => rfl⟩
  have D_Ldayby := ok_Ldayby Tx F_Ldayby D_Lfigures D_Llengths D_Lday
  have F_Lcellby : Fdef K mg "_law_cell_by" "_law_cell_by" s_Lcellby ["_law_kind", "_law_text"] := ⟨_, _, L2.fun_mk (st := s_Lcellby) l_Lcellby c_Lcellby k_Lcellby, PySem.W.mg_of X G a_Lcellby, (L2.fun_mk (st := s_Lcellby) l_Lcellby c_Lcellby k_Lcellby).binds fun _ _ _ _ _ _ us hl => match us, hl with | [_, _], _ => rfl⟩
  have D_Lcellby := ok_Lcellby Tx F_Lcellby D_Lnumberby D_Ldayby
  have F_Lmade : Fdef K mg "_law_made" "_law_made" s_Lmade ["_law_text", "_law_d"] := ⟨_, _, L2.fun_mk (st := s_Lmade) l_Lmade c_Lmade k_Lmade, PySem.W.mg_of X G a_Lmade, (L2.fun_mk (st := s_Lmade) l_Lmade c_Lmade k_Lmade).binds fun _ _ _ _ _ _ us hl => match us, hl with | [_, _], _ => rfl⟩
  have D_Lmade := ok_Lmade Tx F_Lmade 
  have F_Lalike : Fdef K mg "_law_alike" "_law_alike" s_Lalike ["_law_found", "_law_due"] := ⟨_, _, L2.fun_mk (st := s_Lalike) l_Lalike c_Lalike k_Lalike, PySem.W.mg_of X G a_Lalike, (L2.fun_mk (st := s_Lalike) l_Lalike c_Lalike k_Lalike).binds fun _ _ _ _ _ _ us hl => match us, hl with | [_, _], _ => rfl⟩
  have D_Lalike := ok_Lalike Tx F_Lalike D_Lwhole
  have F_Lrefused : Fdef K mg "_law_refused" "_law_refused" s_Lrefused ["_law_kind", "_law_text"] := ⟨_, _, L2.fun_mk (st := s_Lrefused) l_Lrefused c_Lrefused k_Lrefused, PySem.W.mg_of X G a_Lrefused, (L2.fun_mk (st := s_Lrefused) l_Lrefused c_Lrefused k_Lrefused).binds fun _ _ _ _ _ _ us hl => match us, hl with | [_, _], _ => rfl⟩
  have D_Lrefused := ok_Lrefused Tx F_Lrefused D_readcell
  exact ok_law Tx FL D_Ldraws D_Lgood D_showcell D_Lalike D_readcell D_Lmade D_Lcellby D_Lrefused
end K10
open PySem PySem.W PyProof.Rows
set_option maxHeartbeats 0 in
theorem PySem.Challenge.cw_markscale_k10_cells_as_texts_holds : PySem.Challenge.rw_markscale_k10_cells_as_texts.Holds := by
  w_on; o_law; k_head; (case hw => w_witness2)
  k_fill
  refine L2.walk_of (l := PySem.Challenge.rw_markscale_k10_cells_as_texts) (n := 63) (k := 8) (x := "_law_script") (CX := fun w => L2.CX PySem.Challenge.pw_markscale_k10_cells_as_texts w) (sp := fun w => DL.spLaw _ K10.m_law) rfl (by decide) rfl ⟨rfl, by decide, by decide⟩ (fun w h Y => PySem.W.kIn_of Y) ?F (fun _ H a ns hl _ hS => ⟨rfl, H, _, L2.Same.refl H, DL.rp_script hS, K10.law_holds ns hl, fun _ => rfl⟩) (fun w H s e s1 ⟨a, B, H1, cls, d, _, _, _, _, _, _, _, z⟩ => z)
  case F =>
    intro w mg fa h KX G hmg
    refine' K10.all_mk (l := PySem.Challenge.rw_markscale_k10_cells_as_texts) KX G hmg ?a_iswhole ?l_iswhole ?c_iswhole ?k_iswhole ?a_divisor ?l_divisor ?c_divisor ?k_divisor ?a_isnumber ?l_isnumber ?c_isnumber ?k_isnumber ?a_shownumber ?l_shownumber ?c_shownumber ?k_shownumber ?a_countof ?l_countof ?c_countof ?k_countof ?a_topof ?l_topof ?c_topof ?k_topof ?a_readnumber ?l_readnumber ?c_readnumber ?k_readnumber ?a_istold ?l_istold ?c_istold ?k_istold ?a_isleap ?l_isleap ?c_isleap ?k_isleap ?a_lengthof ?l_lengthof ?c_lengthof ?k_lengthof ?a_aheadof ?l_aheadof ?c_aheadof ?k_aheadof ?a_isday ?l_isday ?c_isday ?k_isday ?a_istoldday ?l_istoldday ?c_istoldday ?k_istoldday ?a_dayof ?l_dayof ?c_dayof ?k_dayof ?a_partsof ?l_partsof ?c_partsof ?k_partsof ?a_showday ?l_showday ?c_showday ?k_showday ?a_readday ?l_readday ?c_readday ?k_readday ?a_isword ?l_isword ?c_isword ?k_isword ?a_iscell ?l_iscell ?c_iscell ?k_iscell ?a_showcell ?l_showcell ?c_showcell ?k_showcell ?a_cellby ?l_cellby ?c_cellby ?k_cellby ?a_readcell ?l_readcell ?c_readcell ?k_readcell ?a_Ldraws ?l_Ldraws ?c_Ldraws ?k_Ldraws ?a_Lwhole ?l_Lwhole ?c_Lwhole ?k_Lwhole ?a_Ldivisor ?l_Ldivisor ?c_Ldivisor ?k_Ldivisor ?a_Llengths ?l_Llengths ?c_Llengths ?k_Llengths ?a_Lnumber ?l_Lnumber ?c_Lnumber ?k_Lnumber ?a_Lword ?l_Lword ?c_Lword ?k_Lword ?a_Lday ?l_Lday ?c_Lday ?k_Lday ?a_Lgood ?l_Lgood ?c_Lgood ?k_Lgood ?a_Lfigures ?l_Lfigures ?c_Lfigures ?k_Lfigures ?a_Lnumberby ?l_Lnumberby ?c_Lnumberby ?k_Lnumberby ?a_Ldayby ?l_Ldayby ?c_Ldayby ?k_Ldayby ?a_Lcellby ?l_Lcellby ?c_Lcellby ?k_Lcellby ?a_Lmade ?l_Lmade ?c_Lmade ?k_Lmade ?a_Lalike ?l_Lalike ?c_Lalike ?k_Lalike ?a_Lrefused ?l_Lrefused ?c_Lrefused ?k_Lrefused ?a_law ?l_law ?c_law ?k_law ?z_ValueError ?z_abs ?z_all ?z_bool ?z_int ?z_isinstance ?z_len ?z_range ?z_str ?z_sum ?z_tuple ?g_FIGURES_days ?g_FIGURES_figures ?g_LAST ?g_LETTERS ?g_MOST ?ca_MarkError ?ce_MarkError ?ct_MarkError ?cd_MarkError ?ca_NoNumber ?ce_NoNumber ?ct_NoNumber ?cd_NoNumber ?ca_NoDay ?ce_NoDay ?ct_NoDay ?cd_NoDay ?ca_NoTable ?ce_NoTable ?ct_NoTable ?cd_NoTable ?ck_NoDay ?xx_NoDay ?ga_NoDay ?gg_NoDay ?gc_NoDay ?gm_NoDay ?ss_NoDay ?su_NoDay_NoNumber ?su_NoDay_NoTable ?su_NoDay_MarkError ?sv_NoDay_ValueError ?ck_NoNumber ?xx_NoNumber ?ga_NoNumber ?gg_NoNumber ?gc_NoNumber ?gm_NoNumber ?ss_NoNumber ?su_NoNumber_NoDay ?su_NoNumber_NoTable ?su_NoNumber_MarkError ?sv_NoNumber_ValueError ?ck_NoTable ?xl_NoTable ?xs_NoTable ?xn_NoTable ?xi_NoTable ?xt_NoTable ?xf_NoTable ?xc_NoTable ?xk_NoTable ?ga_NoTable ?gg_NoTable ?gc_NoTable ?gm_NoTable ?ss_NoTable ?su_NoTable_NoNumber ?su_NoTable_NoDay ?su_NoTable_MarkError ?sv_NoTable_ValueError ?sp_ ?tk_
    (case a_iswhole => k_is)
    (case l_iswhole => k_is)
    (case c_iswhole => k_is)
    (case k_iswhole => k_is)
    (case a_divisor => k_is)
    (case l_divisor => k_is)
    (case c_divisor => k_is)
    (case k_divisor => k_is)
    (case a_isnumber => k_is)
    (case l_isnumber => k_is)
    (case c_isnumber => k_is)
    (case k_isnumber => k_is)
    (case a_shownumber => k_is)
    (case l_shownumber => k_is)
    (case c_shownumber => k_is)
    (case k_shownumber => k_is)
    (case a_countof => k_is)
    (case l_countof => k_is)
    (case c_countof => k_is)
    (case k_countof => k_is)
    (case a_topof => k_is)
    (case l_topof => k_is)
    (case c_topof => k_is)
    (case k_topof => k_is)
    (case a_readnumber => k_is)
    (case l_readnumber => k_is)
    (case c_readnumber => k_is)
    (case k_readnumber => k_is)
    (case a_istold => k_is)
    (case l_istold => k_is)
    (case c_istold => k_is)
    (case k_istold => k_is)
    (case a_isleap => k_is)
    (case l_isleap => k_is)
    (case c_isleap => k_is)
    (case k_isleap => k_is)
    (case a_lengthof => k_is)
    (case l_lengthof => k_is)
    (case c_lengthof => k_is)
    (case k_lengthof => k_is)
    (case a_aheadof => k_is)
    (case l_aheadof => k_is)
    (case c_aheadof => k_is)
    (case k_aheadof => k_is)
    (case a_isday => k_is)
    (case l_isday => k_is)
    (case c_isday => k_is)
    (case k_isday => k_is)
    (case a_istoldday => k_is)
    (case l_istoldday => k_is)
    (case c_istoldday => k_is)
    (case k_istoldday => k_is)
    (case a_dayof => k_is)
    (case l_dayof => k_is)
    (case c_dayof => k_is)
    (case k_dayof => k_is)
    (case a_partsof => k_is)
    (case l_partsof => k_is)
    (case c_partsof => k_is)
    (case k_partsof => k_is)
    (case a_showday => k_is)
    (case l_showday => k_is)
    (case c_showday => k_is)
    (case k_showday => k_is)
    (case a_readday => k_is)
    (case l_readday => k_is)
    (case c_readday => k_is)
    (case k_readday => k_is)
    (case a_isword => k_is)
    (case l_isword => k_is)
    (case c_isword => k_is)
    (case k_isword => k_is)
    (case a_iscell => k_is)
    (case l_iscell => k_is)
    (case c_iscell => k_is)
    (case k_iscell => k_is)
    (case a_showcell => k_is)
    (case l_showcell => k_is)
    (case c_showcell => k_is)
    (case k_showcell => k_is)
    (case a_cellby => k_is)
    (case l_cellby => k_is)
    (case c_cellby => k_is)
    (case k_cellby => k_is)
    (case a_readcell => k_is)
    (case l_readcell => k_is)
    (case c_readcell => k_is)
    (case k_readcell => k_is)
    (case a_Ldraws => k_is)
    (case l_Ldraws => k_is)
    (case c_Ldraws => k_is)
    (case k_Ldraws => k_is)
    (case a_Lwhole => k_is)
    (case l_Lwhole => k_is)
    (case c_Lwhole => k_is)
    (case k_Lwhole => k_is)
    (case a_Ldivisor => k_is)
    (case l_Ldivisor => k_is)
    (case c_Ldivisor => k_is)
    (case k_Ldivisor => k_is)
    (case a_Llengths => k_is)
    (case l_Llengths => k_is)
    (case c_Llengths => k_is)
    (case k_Llengths => k_is)
    (case a_Lnumber => k_is)
    (case l_Lnumber => k_is)
    (case c_Lnumber => k_is)
    (case k_Lnumber => k_is)
    (case a_Lword => k_is)
    (case l_Lword => k_is)
    (case c_Lword => k_is)
    (case k_Lword => k_is)
    (case a_Lday => k_is)
    (case l_Lday => k_is)
    (case c_Lday => k_is)
    (case k_Lday => k_is)
    (case a_Lgood => k_is)
    (case l_Lgood => k_is)
    (case c_Lgood => k_is)
    (case k_Lgood => k_is)
    (case a_Lfigures => k_is)
    (case l_Lfigures => k_is)
    (case c_Lfigures => k_is)
    (case k_Lfigures => k_is)
    (case a_Lnumberby => k_is)
    (case l_Lnumberby => k_is)
    (case c_Lnumberby => k_is)
    (case k_Lnumberby => k_is)
    (case a_Ldayby => k_is)
    (case l_Ldayby => k_is)
    (case c_Ldayby => k_is)
    (case k_Ldayby => k_is)
    (case a_Lcellby => k_is)
    (case l_Lcellby => k_is)
    (case c_Lcellby => k_is)
    (case k_Lcellby => k_is)
    (case a_Lmade => k_is)
    (case l_Lmade => k_is)
    (case c_Lmade => k_is)
    (case k_Lmade => k_is)
    (case a_Lalike => k_is)
    (case l_Lalike => k_is)
    (case c_Lalike => k_is)
    (case k_Lalike => k_is)
    (case a_Lrefused => k_is)
    (case l_Lrefused => k_is)
    (case c_Lrefused => k_is)
    (case k_Lrefused => k_is)
    (case a_law => k_is)
    (case l_law => k_is)
    (case c_law => k_is)
    (case k_law => k_is)
    (case z_ValueError => k_is)
    (case z_abs => k_is)
    (case z_all => k_is)
    (case z_bool => k_is)
    (case z_int => k_is)
    (case z_isinstance => k_is)
    (case z_len => k_is)
    (case z_range => k_is)
    (case z_str => k_is)
    (case z_sum => k_is)
    (case z_tuple => k_is)
    (case g_FIGURES_days => k_is)
    (case g_FIGURES_figures => k_is)
    (case g_LAST => k_is)
    (case g_LETTERS => k_is)
    (case g_MOST => k_is)
    (case ca_MarkError => k_is)
    (case ce_MarkError => k_is)
    (case ct_MarkError => k_is)
    (case cd_MarkError => k_is)
    (case ca_NoNumber => k_is)
    (case ce_NoNumber => k_is)
    (case ct_NoNumber => k_is)
    (case cd_NoNumber => k_is)
    (case ca_NoDay => k_is)
    (case ce_NoDay => k_is)
    (case ct_NoDay => k_is)
    (case cd_NoDay => k_is)
    (case ca_NoTable => k_is)
    (case ce_NoTable => k_is)
    (case ct_NoTable => k_is)
    (case cd_NoTable => k_is)
    (case ck_NoDay => k_is)
    (case xx_NoDay => k_exc)
    (case ga_NoDay => k_is)
    (case gg_NoDay => k_is)
    (case gc_NoDay => k_is)
    (case gm_NoDay => k_is)
    (case ss_NoDay => k_is)
    (case su_NoDay_NoNumber => k_is)
    (case su_NoDay_NoTable => k_is)
    (case su_NoDay_MarkError => k_is)
    (case sv_NoDay_ValueError => k_is)
    (case ck_NoNumber => k_is)
    (case xx_NoNumber => k_exc)
    (case ga_NoNumber => k_is)
    (case gg_NoNumber => k_is)
    (case gc_NoNumber => k_is)
    (case gm_NoNumber => k_is)
    (case ss_NoNumber => k_is)
    (case su_NoNumber_NoDay => k_is)
    (case su_NoNumber_NoTable => k_is)
    (case su_NoNumber_MarkError => k_is)
    (case sv_NoNumber_ValueError => k_is)
    (case ck_NoTable => k_is)
    (case xl_NoTable => k_is)
    (case xs_NoTable => k_is)
    (case xn_NoTable => k_is)
    (case xi_NoTable => k_is)
    (case xt_NoTable => k_is)
    (case xf_NoTable => k_is)
    (case xc_NoTable => k_is)
    (case xk_NoTable => k_is)
    (case ga_NoTable => k_is)
    (case gg_NoTable => k_is)
    (case gc_NoTable => k_is)
    (case gm_NoTable => k_is)
    (case ss_NoTable => k_is)
    (case su_NoTable_NoNumber => k_is)
    (case su_NoTable_NoDay => k_is)
    (case su_NoTable_MarkError => k_is)
    (case sv_NoTable_ValueError => k_is)
    (case sp_ => k_is)
    (case tk_ => k_is)

