import PyProof.Rows.All
import Wide.All
import OpenK.AllK
import Wide.FinOn
import HandS.ForMost
import HandS.ForExc
import HandS.WideBits
import HandS.RevRange
import HandS.IsInst
import HandS.Flow
import HandS.EndBits
import PySem.Challenge.RW_unsaidsizes_k78_factors_of_polynomials
set_option Elab.async false
set_option linter.all false
set_option maxRecDepth 100000
set_option maxHeartbeats 4000000
/-! A layer of plain data over HandS: what a text's expressions and statements do, told by data alone. -/
namespace PD
open PySem PySem.Spec L2
open PyProof.Rows hiding St
set_option autoImplicit false

variable {K : PySem.W.Frag}
abbrev D := PyData
abbrev PEnv := List (Option (PyData × Bool))

/-- a list that is read: tracked, known, or the module's own -/
def RdL (K : PySem.W.Frag) (H : Hp) (a : Addr) (xs : List V) : Prop := Rd H a (.lst xs) ∨ ∃ (its : Array Value) (n : Nat), K.lookup a = some { cls := .type "list", data := .seq its n } ∧ its.size ≤ sizeLine ∧ Vals xs its.toList
theorem RdL.sq {H : Hp} {a : Addr} {xs : List V} (h : RdL K H a xs) : SqL K H a xs := by
  rcases h with h | ⟨its, n, h1, h2, h3⟩
  · exact .inl h
  · exact .inr ⟨_, its, n, h1, rfl, rfl, rfl, h2, h3⟩
theorem RdL.new {H : Hp} {a : Addr} {xs : List V} (h : H a = some (.lst xs)) : RdL K H a xs := .inl (.inl h)
mutual
/-- the data that a value bears: lists and tuples that are tracked, or known -/
inductive Da (K : PySem.W.Frag) (H : Hp) : V → PyData → Prop
  | non : Da K H .non .none
  | bl (b : Bool) : Da K H (.bl b) (.bool b)
  | int (i : Int) : Da K H (.int i) (.int i)
  | str (x : Str) : Da K H (.str x) (.str x)
  | lst {a : Addr} {xs : List V} {ds : List PyData} : RdL K H a xs → DaAll K H xs ds → Da K H (.ref a) (.list ds)
  | tup {a : Addr} {xs : List V} {ds : List PyData} : Rd H a (.tup xs) → DaAll K H xs ds → Da K H (.ref a) (.tuple ds)
inductive DaAll (K : PySem.W.Frag) (H : Hp) : List V → List PyData → Prop
  | nil : DaAll K H [] []
  | cons {v : V} {vs : List V} {d : PyData} {ds : List PyData} : Da K H v d → DaAll K H vs ds → DaAll K H (v :: vs) (d :: ds)
end
section data
variable {H H' : Hp}
theorem rd_mono {a : Addr} {u : HO} (e : Same H H') (h : Rd H a u) : Rd H' a u := by
  rcases h with h | ⟨o, h⟩
  · exact .inl (e _ _ h)
  · exact .inr ⟨o, e _ _ h⟩
theorem RdL.mono {a : Addr} {xs : List V} (e : Same H H') (h : RdL K H a xs) : RdL K H' a xs := by
  rcases h with h | h
  · exact .inl (rd_mono e h)
  · exact .inr h
mutual
theorem da_dp : ∀ (d : PyData) (v : V), Da K H v d → Dp K H v d
  | .none, _, h => by cases h; exact .non
  | .bool b, _, h => by cases h; exact .bl b
  | .int i, _, h => by cases h; exact .int i
  | .str x, _, h => by cases h; exact .str x
  | .list ds, _, h => by
    cases h with
    | lst hs ha => exact .lst hs.sq (daAll_dp ds _ ha)
  | .tuple ds, _, h => by
    cases h with
    | tup hs ha => exact .tup (.inl hs) (daAll_dp ds _ ha)
  | .dict _, _, h => by cases h
theorem daAll_dp : ∀ (ds : List PyData) (vs : List V), DaAll K H vs ds → DpAll K H vs ds
  | [], _, h => by cases h; exact .nil
  | d :: ds, _, h => by
    cases h with
    | cons h1 h2 => exact .cons (da_dp d _ h1) (daAll_dp ds _ h2)
end
mutual
theorem da_mono (e : Same H H') : ∀ (d : PyData) (v : V), Da K H v d → Da K H' v d
  | .none, _, h => by cases h; exact .non
  | .bool b, _, h => by cases h; exact .bl b
  | .int i, _, h => by cases h; exact .int i
  | .str x, _, h => by cases h; exact .str x
  | .list ds, _, h => by
    cases h with
    | lst hs ha => exact .lst (hs.mono e) (daAll_mono e ds _ ha)
  | .tuple ds, _, h => by
    cases h with
    | tup hs ha => exact .tup (rd_mono e hs) (daAll_mono e ds _ ha)
  | .dict _, _, h => by cases h
theorem daAll_mono (e : Same H H') : ∀ (ds : List PyData) (vs : List V), DaAll K H vs ds → DaAll K H' vs ds
  | [], _, h => by cases h; exact .nil
  | d :: ds, _, h => by
    cases h with
    | cons h1 h2 => exact .cons (da_mono e d _ h1) (daAll_mono e ds _ h2)
end
theorem Same.upd {p : Addr} {o : HO} (h : H p = none) : Same H (L2.upd H p o) := fun b x e => by
  rw [upd_ne (ne_of_none e h)]
  exact e
theorem daAll_len : ∀ {vs : List V} {ds : List PyData}, DaAll K H vs ds → vs.length = ds.length
  | _, _, .nil => rfl
  | _, _, .cons _ t => by rw [List.length_cons, List.length_cons, daAll_len t]
theorem daAll_get : ∀ {vs : List V} {ds : List PyData}, DaAll K H vs ds → ∀ (i : Nat) (d : PyData), ds[i]? = some d → ∃ v, vs[i]? = some v ∧ Da K H v d
  | _, _, .nil, i, d, h => by simp at h
  | _, _, .cons a t, 0, d, h => by simp at h; subst h; exact ⟨_, rfl, a⟩
  | _, _, .cons a t, i + 1, d, h => by
    obtain ⟨v, h1, h2⟩ := daAll_get t i d (by simpa using h)
    exact ⟨v, by simpa using h1, h2⟩
theorem daAll_get' : ∀ {vs : List V} {ds : List PyData}, DaAll K H vs ds → ∀ (i : Nat) (v : V), vs[i]? = some v → ∃ d, ds[i]? = some d ∧ Da K H v d
  | _, _, .nil, i, d, h => by simp at h
  | _, _, .cons a t, 0, d, h => by simp at h; subst h; exact ⟨_, rfl, a⟩
  | _, _, .cons a t, i + 1, d, h => by
    obtain ⟨v, h1, h2⟩ := daAll_get' t i d (by simpa using h)
    exact ⟨v, by simpa using h1, h2⟩
theorem daAll_append : ∀ {vs ws : List V} {ds es : List PyData}, DaAll K H vs ds → DaAll K H ws es → DaAll K H (vs ++ ws) (ds ++ es)
  | _, _, _, _, .nil, s => s
  | _, _, _, _, .cons r t, s => .cons r (daAll_append t s)
theorem daAll_set {v : V} {d : PyData} (r : Da K H v d) : ∀ {vs : List V} {ds : List PyData} (i : Nat), DaAll K H vs ds → DaAll K H (vs.set i v) (ds.set i d)
  | _, _, _, .nil => .nil
  | _, _, 0, .cons _ t => .cons r t
  | _, _, i + 1, .cons q t => .cons q (daAll_set r i t)
theorem daAll_take : ∀ {vs : List V} {ds : List PyData} (n : Nat), DaAll K H vs ds → DaAll K H (vs.take n) (ds.take n)
  | _, _, 0, _ => .nil
  | _, _, _ + 1, .nil => .nil
  | _, _, n + 1, .cons r t => .cons r (daAll_take n t)
theorem daAll_drop : ∀ {vs : List V} {ds : List PyData} (n : Nat), DaAll K H vs ds → DaAll K H (vs.drop n) (ds.drop n)
  | _, _, 0, r => r
  | _, _, _ + 1, .nil => .nil
  | _, _, n + 1, .cons _ t => daAll_drop n t
theorem daAll_rep {vs : List V} {ds : List PyData} (r : DaAll K H vs ds) : ∀ n : Nat, DaAll K H (List.replicate n vs).flatten (List.replicate n ds).flatten
  | 0 => .nil
  | n + 1 => by
    rw [List.replicate_succ, List.replicate_succ, List.flatten_cons, List.flatten_cons]
    exact daAll_append r (daAll_rep r n)
end data

/-! ### growth -/
structure Grow (H Hb H' Hb' : Hp) : Prop where
  ex : Same H H'
  exb : Same Hb Hb'
  sub : Same Hb' H'
  new : ∀ a o, Hb' a = some o → Hb a = some o ∨ H a = none
section
variable {H Hb H1 Hb1 H2 Hb2 : Hp} {p : Addr} {o : HO}
theorem Grow.refl (h : Same Hb H) : Grow H Hb H Hb := ⟨Same.refl _, Same.refl _, h, fun _ _ e => .inl e⟩
theorem Grow.trans (a : Grow H Hb H1 Hb1) (b : Grow H1 Hb1 H2 Hb2) : Grow H Hb H2 Hb2 := ⟨a.ex.trans b.ex, a.exb.trans b.exb, b.sub, fun x o e => by
  rcases b.new x o e with h | h
  · exact a.new x o h
  · exact .inr (a.ex.free h)⟩
theorem Grow.free (a : Grow H Hb H1 Hb1) (h : H1 p = none) : H p = none := a.ex.free h
theorem Grow.freeb (g : Same Hb H) (h : H p = none) : Hb p = none := g.free h
theorem Grow.alloc (g : Same Hb H) (hp : H p = none) : Grow H Hb (upd H p o) (upd Hb p o) := ⟨Same.upd hp, Same.upd (g.free hp), fun a u e => by
    by_cases h : a = p
    · subst h; rw [upd_same] at e ⊢; exact e
    · rw [upd_ne h] at e ⊢; exact g a u e, fun a u e => by
    by_cases h : a = p
    · subst h; exact .inr hp
    · rw [upd_ne h] at e; exact .inl e⟩
theorem Grow.allocO (g : Same Hb H) (hp : H p = none) : Grow H Hb (upd H p o) Hb := ⟨Same.upd hp, Same.refl _, g.trans (Same.upd hp), fun _ _ e => .inl e⟩
/-- a new object is taken into the base -/
theorem Grow.absorb (a : Grow H Hb H1 Hb1) (h : H p = none) (h1 : H1 p = some o) (hb : Hb1 p = none) : Grow H Hb H1 (upd Hb1 p o) := ⟨a.ex, a.exb.trans (Same.upd hb), fun b u e => by
    by_cases z : b = p
    · subst z; rw [upd_same] at e; cases e; exact h1
    · rw [upd_ne z] at e; exact a.sub b u e, fun b u e => by
    by_cases z : b = p
    · subst z; exact .inr h
    · rw [upd_ne z] at e; exact a.new b u e⟩
/-- what the base does not know stays unknown to it -/
theorem Grow.keep (a : Grow H Hb H1 Hb1) (h : H p = some o) (hb : Hb p = none) : Hb1 p = none := by
  cases q : Hb1 p with
  | none => rfl
  | some u =>
    rcases a.new p u q with z | z
    · rw [hb] at z; cases z
    · rw [h] at z; cases z
end

/-! ### slots -/
def OwnL (K : PySem.W.Frag) (H0 H Hb : Hp) (v : V) (d : PyData) : Prop := ∃ p xs ds, v = .ref p ∧ d = .list ds ∧ H p = some (.lst xs) ∧ Hb p = none ∧ H0 p = none ∧ DaAll K Hb xs ds
def SlotOk (K : PySem.W.Frag) (H0 H Hb : Hp) (v : V) (d : PyData) : Bool → Prop
  | false => Da K Hb v d
  | true => OwnL K H0 H Hb v d
def RdOk (K : PySem.W.Frag) (H Hb : Hp) (v : V) (d : PyData) : Prop := Da K Hb v d ∨ ∃ p xs ds, v = .ref p ∧ d = .list ds ∧ H p = some (.lst xs) ∧ DaAll K Hb xs ds

structure Rel (K : PySem.W.Frag) (H0 Hb0 : Hp) (env : PEnv) (σ : St) (H Hb : Hp) : Prop where
  len : σ.length = env.length
  gr : Grow H0 Hb0 H Hb
  slot : ∀ (i : Nat) (d : PyData) (b : Bool), env[i]? = some (some (d, b)) → ∃ v, σ[i]? = some (some v) ∧ SlotOk K H0 H Hb v d b
  dist : ∀ (i j : Nat) (di dj : PyData) (v : V), i ≠ j → env[i]? = some (some (di, true)) → env[j]? = some (some (dj, true)) → σ[i]? = some (some v) → σ[j]? = some (some v) → False

section
variable {H0 Hb0 H Hb H' Hb' : Hp} {env : PEnv} {σ : St} {v : V} {d : PyData}
theorem SlotOk.grow (g : Grow H Hb H' Hb') : ∀ {b : Bool}, SlotOk K H0 H Hb v d b → SlotOk K H0 H' Hb' v d b
  | false, h => da_mono g.exb d v h
  | true, ⟨p, xs, ds, e1, e2, h1, h2, h3, h4⟩ => ⟨p, xs, ds, e1, e2, g.ex _ _ h1, g.keep h1 h2, h3, daAll_mono g.exb ds xs h4⟩
theorem Rel.grow (r : Rel K H0 Hb0 env σ H Hb) (g : Grow H Hb H' Hb') : Rel K H0 Hb0 env σ H' Hb' where
  len := r.len
  gr := r.gr.trans g
  slot := fun i d b e => by
    obtain ⟨v, h1, h2⟩ := r.slot i d b e
    exact ⟨v, h1, h2.grow g⟩
  dist := r.dist
theorem Rel.refl (r : Rel K H0 Hb0 env σ H Hb) : Grow H Hb H Hb := Grow.refl r.gr.sub
theorem RdOk.toDp (g : Same Hb H) (h : RdOk K H Hb v d) : Da K H v d := by
  rcases h with h | ⟨p, xs, ds, rfl, rfl, h1, h2⟩
  · exact da_mono g d v h
  · exact .lst (.new h1) (daAll_mono g ds xs h2)
theorem RdOk.grow (g : Grow H Hb H' Hb') (h : RdOk K H Hb v d) : RdOk K H' Hb' v d := by
  rcases h with h | ⟨p, xs, ds, rfl, rfl, h1, h2⟩
  · exact .inl (da_mono g.exb d v h)
  · exact .inr ⟨p, xs, ds, rfl, rfl, g.ex _ _ h1, daAll_mono g.exb ds xs h2⟩
/-- a list that is read -/
theorem RdOk.list {ds : List PyData} (g : Same Hb H) (h : RdOk K H Hb v (.list ds)) : ∃ p xs, v = .ref p ∧ RdL K H p xs ∧ DaAll K Hb xs ds := by
  rcases h with h | ⟨p, xs, es, rfl, e, h1, h2⟩
  · cases h with
    | lst hs ha => exact ⟨_, _, rfl, hs.mono g, ha⟩
  · cases e
    exact ⟨p, xs, rfl, .new h1, h2⟩
theorem RdOk.tuple {ds : List PyData} (g : Same Hb H) (h : RdOk K H Hb v (.tuple ds)) : ∃ p xs, v = .ref p ∧ Rd H p (.tup xs) ∧ DaAll K Hb xs ds := by
  rcases h with h | ⟨p, xs, es, rfl, e, h1, h2⟩
  · cases h with
    | tup hs ha => exact ⟨_, _, rfl, rd_mono g hs, ha⟩
  · cases e
end

/-! ### what readings do, told by data -/
def SpV (K : PySem.W.Frag) (t : TE) (f : PEnv → Option PyData) : Prop := ∀ H0 Hb0 env σ H Hb d, Rel K H0 Hb0 env σ H Hb → f env = some d → ∀ Q : VK, (∀ v H' Hb', Grow H Hb H' Hb' → Da K Hb' v d → Q v H') → t σ H Q
def SpF (K : PySem.W.Frag) (t : TE) (f : PEnv → Option (List PyData)) : Prop := ∀ H0 Hb0 env σ H Hb ds, Rel K H0 Hb0 env σ H Hb → f env = some ds → ∀ Q : VK, (∀ p xs H' Hb', Grow H Hb H' Hb' → H p = none → H' p = some (.lst xs) → Hb' p = none → DaAll K Hb' xs ds → Q (.ref p) H') → t σ H Q
def SpR (K : PySem.W.Frag) (t : TE) (f : PEnv → Option PyData) : Prop := ∀ H0 Hb0 env σ H Hb d, Rel K H0 Hb0 env σ H Hb → f env = some d → ∀ Q : VK, (∀ v H' Hb', Grow H Hb H' Hb' → RdOk K H' Hb' v d → Q v H') → t σ H Q
def SpT (K : PySem.W.Frag) (t : TT) (f : PEnv → Option Bool) : Prop := ∀ H0 Hb0 env σ H Hb b, Rel K H0 Hb0 env σ H Hb → f env = some b → ∀ Q : Bool → Hp → Prop, (∀ H' Hb', Grow H Hb H' Hb' → Q b H') → t σ H Q
def SpA (K : PySem.W.Frag) (t : TA) (f : PEnv → Option (List PyData)) : Prop := ∀ H0 Hb0 env σ H Hb ds, Rel K H0 Hb0 env σ H Hb → f env = some ds → ∀ Q : List V → Hp → Prop, (∀ vs H' Hb', Grow H Hb H' Hb' → DaAll K Hb' vs ds → Q vs H') → t σ H Q
def ItOk (K : PySem.W.Frag) (J : It) (ds : List PyData) (Hb1 : Hp) : Prop := ∀ (i : Nat) (H Hb : Hp), Same Hb1 Hb → Same Hb H →
  (∀ (d : PyData), ds[i]? = some d → J.go i H ∧ ∀ x H', J.yld i H x H' → ∃ Hb', Grow H Hb H' Hb' ∧ Da K Hb' x d) ∧ (ds.length ≤ i → J.stop i H)
def SpI (K : PySem.W.Frag) (t : TI) (f : PEnv → Option (List PyData)) : Prop := ∀ H0 Hb0 env σ H Hb ds, Rel K H0 Hb0 env σ H Hb → f env = some ds → ∀ R : It → Hp → Prop, (∀ J H' Hb', Grow H Hb H' Hb' → ItOk K J ds Hb' → R J H') → t σ H R

structure JV (X : Cx) (K : PySem.W.Frag) (e : Expr) (t : TE) (f : PEnv → Option PyData) : Prop where
  pe : PE X e t
  sp : SpV K t f
structure JF (X : Cx) (K : PySem.W.Frag) (e : Expr) (t : TE) (f : PEnv → Option (List PyData)) : Prop where
  pe : PE X e t
  sp : SpF K t f
structure JR (X : Cx) (K : PySem.W.Frag) (e : Expr) (t : TE) (f : PEnv → Option PyData) : Prop where
  pe : PE X e t
  sp : SpR K t f
structure JT (X : Cx) (K : PySem.W.Frag) (e : Expr) (t : TT) (f : PEnv → Option Bool) : Prop where
  pt : PT X e t
  sp : SpT K t f
structure JW (X : Cx) (K : PySem.W.Frag) (e : Expr) (t : TT) (f : PEnv → Option Bool) : Prop where
  pw : PW X e t
  sp : SpT K t f
structure JA (X : Cx) (K : PySem.W.Frag) (es : List Expr) (t : TA) (f : PEnv → Option (List PyData)) : Prop where
  pa : PA X es t
  sp : SpA K t f
structure JI (X : Cx) (K : PySem.W.Frag) (tg iter : Expr) (t : TI) (f : PEnv → Option (List PyData)) : Prop where
  pi : PI X tg iter t
  sp : SpI K t f

section conv
variable {X : Cx} {e : Expr} {t : TE} {f : PEnv → Option PyData} {g : PEnv → Option (List PyData)}
def fL (g : PEnv → Option (List PyData)) : PEnv → Option PyData := fun env => (g env).map PyData.list
theorem SpF.v (h : SpF K t g) : SpV K t (fL g) := fun H0 Hb0 env σ H Hb d r e Q q => by
  unfold fL at e
  obtain ⟨ds, e1, e2⟩ := Option.map_eq_some_iff.mp e
  subst e2
  exact h H0 Hb0 env σ H Hb ds r e1 Q fun p xs H' Hb' gr h0 h1 h2 h3 => q _ H' (upd Hb' p (.lst xs)) (gr.absorb h0 h1 h2) (.lst (.new upd_same) (daAll_mono (Same.upd h2) ds xs h3))
theorem SpV.r (h : SpV K t f) : SpR K t f := fun H0 Hb0 env σ H Hb d r e Q q => h H0 Hb0 env σ H Hb d r e Q fun v H' Hb' gr hd => q v H' Hb' gr (.inl hd)
theorem JF.v (h : JF X K e t g) : JV X K e t (fL g) := ⟨h.pe, h.sp.v⟩
theorem JV.r (h : JV X K e t f) : JR X K e t f := ⟨h.pe, h.sp.r⟩
theorem JF.r (h : JF X K e t g) : JR X K e t (fL g) := h.v.r
end conv

/-! ### names and constants -/
def fVar (i : Nat) : PEnv → Option PyData := fun env => match env[i]? with
  | some (some (d, _)) => some d
  | _ => none
def fVarV (i : Nat) : PEnv → Option PyData := fun env => match env[i]? with
  | some (some (d, false)) => some d
  | _ => none
def fC (d : PyData) : PEnv → Option PyData := fun _ => some d
section
variable {X : Cx} {pos : Pos}
theorem spR_var {i : Nat} : SpR K (tVar i) (fVar i) := fun H0 Hb0 env σ H Hb d r e Q q => by
  unfold fVar at e
  split at e
  · rename_i d' b he
    cases e
    obtain ⟨v, h1, h2⟩ := r.slot i _ b he
    refine ⟨v, h1, q v H Hb r.refl ?_⟩
    cases b with
    | false => exact .inl h2
    | true =>
      obtain ⟨p, xs, ds, e1, e2, g1, g2, g3, g4⟩ := h2
      exact .inr ⟨p, xs, ds, e1, e2, g1, g4⟩
  · cases e
theorem spV_var {i : Nat} : SpV K (tVar i) (fVarV i) := fun H0 Hb0 env σ H Hb d r e Q q => by
  unfold fVarV at e
  split at e
  · rename_i d' he
    cases e
    obtain ⟨v, h1, h2⟩ := r.slot i _ false he
    exact ⟨v, h1, q v H Hb r.refl h2⟩
  · cases e
theorem jr_v {x : Str} (i : Nat) (hN : X.N[i]? = some x := by rfl) (hv : Vis X.env.scope x := by first | exact Or.inl rfl | exact Or.inr (Or.inl rfl) | exact Or.inr (Or.inr rfl)) (hd : (x == ("__debug__" : Str)) = false := by decide)
    (hcd : (x == ("__classdict__" : Str)) = false := by decide) : JR X K (.Name x pos) (tVar i) (fVar i) := ⟨pe_var hN hv hd hcd, spR_var⟩
theorem jv_v {x : Str} (i : Nat) (hN : X.N[i]? = some x := by rfl) (hv : Vis X.env.scope x := by first | exact Or.inl rfl | exact Or.inr (Or.inl rfl) | exact Or.inr (Or.inr rfl)) (hd : (x == ("__debug__" : Str)) = false := by decide)
    (hcd : (x == ("__classdict__" : Str)) = false := by decide) : JV X K (.Name x pos) (tVar i) (fVarV i) := ⟨pe_var hN hv hd hcd, spV_var⟩
theorem spV_c {v : V} {d : PyData} (h : ∀ Hb, Da K Hb v d) : SpV K (tC v) (fC d) := fun H0 Hb0 env σ H Hb d' r e Q q => by
  cases e
  exact q v H Hb r.refl (h Hb)
theorem jv_int {i : Int} {j : Nat} : JV X K (.Constant (.int i) j pos) (tC (.int i)) (fC (.int i)) := ⟨pe_int, spV_c fun _ => .int i⟩
theorem jv_bl {b : Bool} {j : Nat} : JV X K (.Constant (.bool b) j pos) (tC (.bl b)) (fC (.bool b)) := ⟨pe_bl, spV_c fun _ => .bl b⟩
theorem jv_non {j : Nat} : JV X K (.Constant .none j pos) (tC .non) (fC .none) := ⟨pe_non, spV_c fun _ => .non⟩
theorem jv_str {x : Str} {j : Nat} : JV X K (.Constant (.str x) j pos) (tC (.str x)) (fC (.str x)) := ⟨pe_str, spV_c fun _ => .str x⟩
end

/-! ### arguments, displays -/
def fNil : PEnv → Option (List PyData) := fun _ => some []
def fCons (f : PEnv → Option PyData) (g : PEnv → Option (List PyData)) : PEnv → Option (List PyData) := fun env => (f env).bind fun d => (g env).map fun ds => d :: ds
def fTup (g : PEnv → Option (List PyData)) : PEnv → Option PyData := fun env => (g env).bind fun ds => if ds.length ≤ 1000 then some (.tuple ds) else none
def fLst (g : PEnv → Option (List PyData)) : PEnv → Option (List PyData) := fun env => (g env).bind fun ds => if ds.length ≤ 1000 then some ds else none
section
variable {X : Cx} {pos : Pos} {e : Expr} {es : List Expr} {te : TE} {t : TA} {f : PEnv → Option PyData} {g : PEnv → Option (List PyData)}
theorem ja_nil : JA X K [] tNil fNil := ⟨pa_nil, fun H0 Hb0 env σ H Hb d r e Q q => by cases e; exact q [] H Hb r.refl .nil⟩
theorem ja_cons (ha : JV X K e te f) (hr : JA X K es t g) (hs : starEach (e :: es) X.env = (false, eval e X.env) :: starEach es X.env := by rfl) : JA X K (e :: es) (tCons te t) (fCons f g) :=
  ⟨pa_cons ha.pe hr.pa hs, fun H0 Hb0 env σ H Hb d r e Q q => by
    unfold fCons at e
    obtain ⟨x, e1, e⟩ := Option.bind_eq_some_iff.mp e
    obtain ⟨ds, e2, e⟩ := Option.map_eq_some_iff.mp e
    subst e
    refine ha.sp H0 Hb0 env σ H Hb x r e1 _ fun v H1 Hb1 g1 h1 => ?_
    exact hr.sp H0 Hb0 env σ H1 Hb1 ds (r.grow g1) e2 _ fun vs H2 Hb2 g2 h2 => q _ H2 Hb2 (g1.trans g2) (.cons (da_mono g2.exb _ _ h1) h2)⟩
theorem small1000' {n : Nat} (h : n ≤ 1000) : n ≤ sizeLine := Nat.le_of_lt (small1000 h)
theorem jv_tup {x1 : Nat} (h : JA X K es t g) : JV X K (.Tuple es x1 pos) (tTup t) (fTup g) := ⟨pe_tup h.pa, fun H0 Hb0 env σ H Hb d r e Q q => by
  unfold fTup at e
  obtain ⟨ds, e1, e⟩ := Option.bind_eq_some_iff.mp e
  split at e
  · rename_i hl
    cases e
    refine h.sp H0 Hb0 env σ H Hb ds r e1 _ fun vs H1 Hb1 g1 h1 => ⟨small1000' (by rw [daAll_len h1]; exact hl), fun p hp => ?_⟩
    exact q _ _ (upd Hb1 p (.tup vs)) (g1.trans (Grow.alloc g1.sub hp)) (.tup (.inl upd_same) (daAll_mono (Same.upd (g1.sub.free hp)) ds vs h1))
  · cases e⟩
theorem jf_lst (h : JA X K es t g) : JF X K (.List es pos) (tLst t) (fLst g) := ⟨pe_lst h.pa, fun H0 Hb0 env σ H Hb d r e Q q => by
  unfold fLst at e
  obtain ⟨ds, e1, e⟩ := Option.bind_eq_some_iff.mp e
  split at e
  · rename_i hl
    cases e
    refine h.sp H0 Hb0 env σ H Hb _ r e1 _ fun vs H1 Hb1 g1 h1 => ⟨small1000' (by rw [daAll_len h1]; exact hl), fun p hp => ?_⟩
    exact q p vs _ Hb1 (g1.trans (Grow.allocO g1.sub hp)) (g1.free hp) upd_same (g1.sub.free hp) h1
  · cases e⟩
end
end PD

set_option Elab.async false
set_option linter.all false
set_option maxRecDepth 100000
set_option maxHeartbeats 4000000
set_option autoImplicit false
namespace PD
variable {K : PySem.W.Frag}
open PySem PySem.Spec L2
open PyProof.Rows hiding St

/-! ### operators by value -/
def fBin (op : PyData → PyData → Option PyData) (f g : PEnv → Option PyData) : PEnv → Option PyData := fun env => (f env).bind fun x => (g env).bind fun y => op x y
def fUn (op : PyData → Option PyData) (f : PEnv → Option PyData) : PEnv → Option PyData := fun env => (f env).bind op
/-- what an operation on values does -/
def OpD (K : PySem.W.Frag) (r : R2) (op : PyData → PyData → Option PyData) : Prop := ∀ (x y : V) (a b c : PyData) (H Hb : Hp), Same Hb H → Da K Hb x a → Da K Hb y b → op a b = some c →
  ∀ Q : VK, (∀ v H' Hb', Grow H Hb H' Hb' → Da K Hb' v c → Q v H') → r x y H Q
section
variable {X : Cx} {pos : Pos} {a b c : Expr} {ta tb tc : TE} {fa fb fc : PEnv → Option PyData} {r r' : R2} {op op' : PyData → PyData → Option PyData}
theorem spV_bin (ha : SpV K ta fa) (hb : SpV K tb fb) (ho : OpD K r op) : SpV K (tOp r ta tb) (fBin op fa fb) := fun H0 Hb0 env σ H Hb d rl e Q q => by
  unfold fBin at e
  obtain ⟨x, e1, e⟩ := Option.bind_eq_some_iff.mp e
  obtain ⟨y, e2, e⟩ := Option.bind_eq_some_iff.mp e
  refine ha H0 Hb0 env σ H Hb x rl e1 _ fun v H1 Hb1 g1 h1 => ?_
  refine hb H0 Hb0 env σ H1 Hb1 y (rl.grow g1) e2 _ fun w H2 Hb2 g2 h2 => ?_
  exact ho v w x y d H2 Hb2 g2.sub (da_mono g2.exb _ _ h1) h2 e Q fun z H3 Hb3 g3 h3 => q z H3 Hb3 ((g1.trans g2).trans g3) h3
def oOr (op op' : PyData → PyData → Option PyData) (a b : PyData) : Option PyData := (op a b).or (op' a b)
theorem OpD.or (h : OpD K r op) (h' : OpD K r' op') : OpD K (fun x y H Q => r x y H Q ∨ r' x y H Q) (oOr op op') := fun x y a b c H Hb g hx hy e Q q => by
  unfold oOr at e
  cases z : op a b with
  | some w =>
    rw [z] at e
    cases e
    exact .inl (h x y a b _ H Hb g hx hy z Q q)
  | none =>
    rw [z] at e
    exact .inr (h' x y a b c H Hb g hx hy e Q q)
/-- ints in and out -/
def oI (C : Int → Int → Bool) (h : Int → Int → Int) : PyData → PyData → Option PyData
  | .int i, .int j => if C i j then some (.int (h i j)) else none
  | _, _ => none
def oB (h : Int → Int → Bool) : PyData → PyData → Option PyData
  | .int i, .int j => some (.bool (h i j))
  | _, _ => none
theorem opD_I {C : Int → Int → Prop} {C' : Int → Int → Bool} {h : Int → Int → Int} (hc : ∀ i j, C' i j = true → C i j) : OpD K (rI C fun i j => .int (h i j)) (oI C' h) := fun x y a b c H Hb g hx hy e Q q => by
  unfold oI at e
  split at e
  · split at e
    · rename_i hcc
      cases e
      cases hx
      cases hy
      exact ⟨_, _, rfl, rfl, hc _ _ hcc, q _ H Hb (Grow.refl g) (.int _)⟩
    · cases e
  · cases e
theorem opD_I0 {h : Int → Int → Int} : OpD K (rI0 fun i j => .int (h i j)) (oI (fun _ _ => true) h) := fun x y a b c H Hb g hx hy e Q q => by
  unfold oI at e
  split at e
  · rw [if_pos rfl] at e
    cases e
    cases hx
    cases hy
    exact ⟨_, _, rfl, rfl, q _ H Hb (Grow.refl g) (.int _)⟩
  · cases e
theorem opD_B0 {h : Int → Int → Bool} : OpD K (rI0 fun i j => .bl (h i j)) (oB h) := fun x y a b c H Hb g hx hy e Q q => by
  unfold oB at e
  split at e
  · cases e
    cases hx
    cases hy
    exact ⟨_, _, rfl, rfl, q _ H Hb (Grow.refl g) (.bl _)⟩
  · cases e
theorem rd_lst {pins : List (Addr × Obj)} {σ : L2.St} {H : Hp} {s : Shared} {p : Addr} {xs : List V} (I : Inv X pins σ H s) (h : RdL X.K H p xs) :
    xs.length ≤ sizeLine ∧ ∃ (its : List Value) (n : Nat), Vals xs its ∧ xs.length = its.length ∧ s.heap.get? p = some { cls := .type "list", data := .seq its.toArray n } := by
  rcases h with h | ⟨its, n, h1, h2, h3⟩
  · obtain ⟨z, its, n, r, e⟩ := h.ok I.hok
    exact ⟨z, its, n, r, r.length, e⟩
  · refine ⟨?_, its.toList, n, h3, h3.length, I.kIn p _ h1⟩
    rw [h3.length, Array.length_toList]
    exact h2
/-- list + list, each tracked or known -/
def rCatS (K : PySem.W.Frag) : R2 := fun x y H Q => ∃ l b xs zs, x = .ref l ∧ y = .ref b ∧ RdL K H l xs ∧ RdL K H b zs ∧ xs.length + zs.length ≤ sizeLine ∧ ∀ p, H p = none → Q (.ref p) (upd H p (.lst (xs ++ zs)))
theorem op_catS : OpR X (binaryOp .Add) (rCatS X.K) := by
  intro pins s σ H x y v u Q I rx ry h
  obtain ⟨l, b, xs, zs, rfl, rfl, hH, hB, hz, q⟩ := h
  cases rx
  cases ry
  obtain ⟨z, its, n, r, hl, e⟩ := rd_lst I hH
  obtain ⟨z2, its2, n2, r2, hl2, e2⟩ := rd_lst I hB
  refine PySem.P.add_list e e2 ?_ (by rw [List.size_toArray, List.size_toArray]; omega)
  have ea : its.toArray ++ its2.toArray = (its ++ its2).toArray := by simp
  rw [ea]
  exact ⟨.ref _, _, I.lnew (t' := s.toks) (r.append r2) (by rw [List.length_append]; omega), rfl, q _ I.fresh⟩
def rRepS (K : PySem.W.Frag) : R2 := fun x y H Q => ∃ l k xs, x = .ref l ∧ y = .int k ∧ RdL K H l xs ∧ -(2 ^ 63) ≤ k ∧ k < 2 ^ 63 ∧ xs.length * k.toNat ≤ sizeLine ∧
  ∀ p, H p = none → Q (.ref p) (upd H p (.lst (List.replicate k.toNat xs).flatten))
theorem op_repS : OpR X (binaryOp .Mult) (rRepS X.K) := by
  intro pins s σ H x y v u Q I rx ry h
  obtain ⟨l, k, xs, rfl, rfl, hH, h1, h2, hz, q⟩ := h
  cases rx
  obtain ⟨t, rfl⟩ := ry
  obtain ⟨z, its, n, r, hl, e⟩ := rd_lst I hH
  have hlen : its.toArray.size * k.toNat ≤ sizeLine := by rw [List.size_toArray, ← hl]; exact hz
  have hcap : ¬ its.toArray.size * k.toNat > (2 ^ 63 - 1) / 8 := by
    have : (sizeLine : Nat) ≤ (2 ^ 63 - 1) / 8 := by decide
    omega
  have hfit : ¬ (!Builtin.List.listFitsIndex k) = true := by
    rw [fitsIndex_both h1 h2]
    exact Bool.false_ne_true
  have hlong : ¬ Builtin.List.listTooLong (its.toArray.size * k.toNat) = true := by
    rw [notLongL hlen]
    exact Bool.false_ne_true
  have hnew : List.foldl (fun x1 x2 => x1 ++ x2) #[] (List.replicate (if its.toArray.isEmpty = true then 0 else k.toNat) its.toArray) = (List.replicate k.toNat its).flatten.toArray := by
    have f0 : ∀ m : Nat, List.foldl (fun x1 x2 => x1 ++ x2) #[] (List.replicate m its.toArray) = (List.replicate m its).flatten.toArray := fun m => by
      have := foldl_rep its m []
      rw [List.nil_append] at this
      exact this
    rw [f0]
    cases its with
    | nil => simp
    | cons a r' => rw [if_neg (by simp)]
  refine wpAny_binaryOp_repeat_ref (T := "list") (U := "int") (by decide) ⟨_, e, rfl⟩ (fun s' => typeIs_int s' k t) noFill_list_mul F.fills_int_mul F.slot_int_rmul repeat_list F.slot_int_index.lookup
    (call_meets F.slot_int_rmul (typeIs_int s k t) F.entry_int_rmul (F.args_int_rmul_2 _ _) (int___rmul___int_list k t l its.toArray n)
      ⟨e, rfl, ⟨_, e, rfl⟩, call_meets F.slot_list_mul ⟨_, e, rfl⟩ F.entry_list_mul (F.args_list_mul_2 _ _) (AutoListH.list___mul___list_int_3 l its.toArray n k t hfit hcap hlong) ⟨e, ?_⟩⟩)
  rw [hnew]
  exact ⟨.ref _, _, I.lnew (t' := s.toks) (r.rep k.toNat) (by rw [PyProof.Rows.lm_len_rep_flat, Nat.mul_comm]; exact hz), rfl, q _ I.fresh⟩

def line24 : Nat := 16777216
theorem line24_eq : sizeLine = line24 := by decide
def oCat : PyData → PyData → Option PyData
  | .list xs, .list ys => if xs.length + ys.length ≤ line24 then some (.list (xs ++ ys)) else none
  | _, _ => none
def oRep : PyData → PyData → Option PyData
  | .list xs, .int k => if k < 1000000 ∧ xs.length * k.toNat ≤ line24 ∧ -1000000 ≤ k then some (.list (List.replicate k.toNat xs).flatten) else none
  | _, _ => none
theorem opD_cat : OpD K (rCatS K) oCat := fun x y a b c H Hb g hx hy e Q q => by
  unfold oCat at e
  split at e
  · split at e
    · rename_i hl
      cases e
      cases hx with
      | lst h1 a1 =>
        cases hy with
        | lst h2 a2 =>
          refine ⟨_, _, _, _, rfl, rfl, h1.mono g, h2.mono g, ?_, fun p hp => ?_⟩
          · rw [daAll_len a1, daAll_len a2, line24_eq]; exact hl
          · exact q _ _ _ (Grow.alloc g hp) (.lst (.new upd_same) (daAll_mono (Same.upd (g.free hp)) _ _ (daAll_append a1 a2)))
    · cases e
  · cases e
theorem opD_rep : OpD K (rRepS K) oRep := fun x y a b c H Hb g hx hy e Q q => by
  unfold oRep at e
  split at e
  · split at e
    · rename_i hl
      cases e
      cases hx with
      | lst h1 a1 =>
        cases hy
        refine ⟨_, _, _, rfl, rfl, h1.mono g, by omega, by omega, ?_, fun p hp => ?_⟩
        · rw [daAll_len a1, line24_eq]; exact hl.2.1
        · exact q _ _ _ (Grow.alloc g hp) (.lst (.new upd_same) (daAll_mono (Same.upd (g.free hp)) _ _ (daAll_rep a1 _)))
    · cases e
  · cases e
/-- the same, the result a list of its own -/
def fCat (f g : PEnv → Option PyData) : PEnv → Option (List PyData) := fun env => (f env).bind fun x => (g env).bind fun y => match x, y with
  | .list xs, .list ys => if xs.length + ys.length ≤ line24 then some (xs ++ ys) else none
  | _, _ => none
def fRep (f g : PEnv → Option PyData) : PEnv → Option (List PyData) := fun env => (f env).bind fun x => (g env).bind fun y => match x, y with
  | .list xs, .int k => if k < 1000000 ∧ xs.length * k.toNat ≤ line24 ∧ -1000000 ≤ k then some (List.replicate k.toNat xs).flatten else none
  | _, _ => none
theorem spF_cat (ha : SpV K ta fa) (hb : SpV K tb fb) : SpF K (tOp (rCatS K) ta tb) (fCat fa fb) := fun H0 Hb0 env σ H Hb d rl e Q q => by
  unfold fCat at e
  obtain ⟨x, e1, e⟩ := Option.bind_eq_some_iff.mp e
  obtain ⟨y, e2, e⟩ := Option.bind_eq_some_iff.mp e
  refine ha H0 Hb0 env σ H Hb x rl e1 _ fun v H1 Hb1 g1 h1 => ?_
  refine hb H0 Hb0 env σ H1 Hb1 y (rl.grow g1) e2 _ fun w H2 Hb2 g2 h2 => ?_
  have h1' := da_mono g2.exb _ _ h1
  split at e
  · split at e
    · rename_i hl
      cases e
      cases h1' with
      | lst r1 a1 =>
        cases h2 with
        | lst r2 a2 =>
          refine ⟨_, _, _, _, rfl, rfl, r1.mono g2.sub, r2.mono g2.sub, ?_, fun p hp => ?_⟩
          · rw [daAll_len a1, daAll_len a2, line24_eq]; exact hl
          · exact q p _ _ Hb2 ((g1.trans g2).trans (Grow.allocO g2.sub hp)) ((g1.trans g2).free hp) upd_same (g2.sub.free hp) (daAll_append a1 a2)
    · cases e
  · cases e
theorem spF_rep (ha : SpV K ta fa) (hb : SpV K tb fb) : SpF K (tOp (rRepS K) ta tb) (fRep fa fb) := fun H0 Hb0 env σ H Hb d rl e Q q => by
  unfold fRep at e
  obtain ⟨x, e1, e⟩ := Option.bind_eq_some_iff.mp e
  obtain ⟨y, e2, e⟩ := Option.bind_eq_some_iff.mp e
  refine ha H0 Hb0 env σ H Hb x rl e1 _ fun v H1 Hb1 g1 h1 => ?_
  refine hb H0 Hb0 env σ H1 Hb1 y (rl.grow g1) e2 _ fun w H2 Hb2 g2 h2 => ?_
  have h1' := da_mono g2.exb _ _ h1
  split at e
  · split at e
    · rename_i hl
      cases e
      cases h1' with
      | lst r1 a1 =>
        cases h2
        refine ⟨_, _, _, rfl, rfl, r1.mono g2.sub, by omega, by omega, ?_, fun p hp => ?_⟩
        · rw [daAll_len a1, line24_eq]; exact hl.2.1
        · exact q p _ _ Hb2 ((g1.trans g2).trans (Grow.allocO g2.sub hp)) ((g1.trans g2).free hp) upd_same (g2.sub.free hp) (daAll_rep a1 _)
    · cases e
  · cases e

/-- numbers that may be multiplied, divided -/
def mulOk (i j : Int) : Bool := decide ((Builtin.Int.intBits i : Int) + (Builtin.Int.intBits j : Int) ≤ 134217728)
def divOk (i j : Int) : Bool := decide (j ≠ 0) && !Builtin.divisionGoesByPylong i j
theorem op_fdivP : OpR X (binaryOp .FloorDiv) (rI (fun i j => divOk i j = true) fun i j => .int (i.fdiv j)) := opI fun i j _ _ _ _ _ hc q => by
  unfold divOk at hc
  rw [Bool.and_eq_true, decide_eq_true_eq, Bool.not_eq_true'] at hc
  exact floordiv_int hc.1 q (.inl hc.2)
def oAdd := oOr (oI (fun _ _ => true) fun i j => i + j) oCat
def oSub := oI (fun _ _ => true) fun i j => i - j
def oMul := oOr (oI mulOk fun i j => i * j) oRep
def oDiv := oI divOk Int.fdiv
def oMod := oI (fun _ j => decide (j ≠ 0)) Int.fmod
def oPow := oI (fun i j => decide (0 ≤ j ∧ j ≤ 1000000 ∧ i.natAbs < 2 ^ 64)) fun i j => i ^ j.toNat
theorem jv_add (ha : JV X K a ta fa) (hb : JV X K b tb fb) (hK : X.K = K := by rfl) : JV X K (.BinOp a .Add b pos) (tOp (fun x y H Q => rI0 (fun i j => .int (i + j)) x y H Q ∨ rCatS K x y H Q) ta tb) (fBin oAdd fa fb) := by
  subst hK
  exact ⟨pe_op (op_add.or op_catS) ha.pe hb.pe, spV_bin ha.sp hb.sp (opD_I0.or opD_cat)⟩
theorem jv_sub (ha : JV X K a ta fa) (hb : JV X K b tb fb) : JV X K (.BinOp a .Sub b pos) (tOp (rI0 (fun i j => .int (i - j))) ta tb) (fBin oSub fa fb) :=
  ⟨pe_op op_sub ha.pe hb.pe, spV_bin ha.sp hb.sp opD_I0⟩
theorem jv_mul (ha : JV X K a ta fa) (hb : JV X K b tb fb) (hK : X.K = K := by rfl) : JV X K (.BinOp a .Mult b pos) (tOp (fun x y H Q => rI CMulX (fun i j => .int (i * j)) x y H Q ∨ rRepS K x y H Q) ta tb) (fBin oMul fa fb) := by
  subst hK
  exact ⟨pe_op (op_mulX.or op_repS) ha.pe hb.pe, spV_bin ha.sp hb.sp ((opD_I fun i j h => by unfold CMulX; exact of_decide_eq_true h).or opD_rep)⟩
theorem jv_div (ha : JV X K a ta fa) (hb : JV X K b tb fb) : JV X K (.BinOp a .FloorDiv b pos) (tOp (rI (fun i j => divOk i j = true) fun i j => .int (i.fdiv j)) ta tb) (fBin oDiv fa fb) :=
  ⟨pe_op op_fdivP ha.pe hb.pe, spV_bin ha.sp hb.sp (opD_I fun i j h => h)⟩
theorem jv_mod (ha : JV X K a ta fa) (hb : JV X K b tb fb) : JV X K (.BinOp a .Mod b pos) (tOp (rI (fun _ j => j ≠ 0) fun i j => .int (i.fmod j)) ta tb) (fBin oMod fa fb) :=
  ⟨pe_op op_modN ha.pe hb.pe, spV_bin ha.sp hb.sp (opD_I fun i j h => of_decide_eq_true h)⟩
theorem jv_pow (ha : JV X K a ta fa) (hb : JV X K b tb fb) : JV X K (.BinOp a .Pow b pos) (tOp (rI CPow fun i j => .int (i ^ j.toNat)) ta tb) (fBin oPow fa fb) :=
  ⟨pe_op op_pow ha.pe hb.pe, spV_bin ha.sp hb.sp (opD_I fun i j h => by unfold CPow; exact of_decide_eq_true h)⟩
theorem jf_cat (ha : JV X K a ta fa) (hb : JV X K b tb fb) (hK : X.K = K := by rfl) : JF X K (.BinOp a .Add b pos) (tOp (rCatS K) ta tb) (fCat fa fb) := by
  subst hK
  exact ⟨pe_op op_catS ha.pe hb.pe, spF_cat ha.sp hb.sp⟩
theorem jf_rep (ha : JV X K a ta fa) (hb : JV X K b tb fb) (hK : X.K = K := by rfl) : JF X K (.BinOp a .Mult b pos) (tOp (rRepS K) ta tb) (fRep fa fb) := by
  subst hK
  exact ⟨pe_op op_repS ha.pe hb.pe, spF_rep ha.sp hb.sp⟩

/-! ### unary -/
def oNeg : PyData → Option PyData
  | .int i => some (.int (-i))
  | _ => none
def oNot : PyData → Option PyData
  | .bool i => some (.bool (!i))
  | _ => none
theorem jv_neg (ha : JV X K a ta fa) : JV X K (.UnaryOp .USub a pos) (tUn (rU fun i => .int (-i)) ta) (fUn oNeg fa) := ⟨pe_un un_neg ha.pe, fun H0 Hb0 env σ H Hb d rl e Q q => by
  unfold fUn at e
  obtain ⟨x, e1, e⟩ := Option.bind_eq_some_iff.mp e
  unfold oNeg at e
  split at e
  · cases e
    refine ha.sp H0 Hb0 env σ H Hb _ rl e1 _ fun v H1 Hb1 g1 h1 => ?_
    cases h1
    exact ⟨_, rfl, q _ H1 Hb1 g1 (.int _)⟩
  · cases e⟩
theorem jv_not (ha : JV X K a ta fa) : JV X K (.UnaryOp .Not a pos) (tNotV ta) (fUn oNot fa) := ⟨pe_not ha.pe, fun H0 Hb0 env σ H Hb d rl e Q q => by
  unfold fUn at e
  obtain ⟨x, e1, e⟩ := Option.bind_eq_some_iff.mp e
  unfold oNot at e
  split at e
  · cases e
    refine ha.sp H0 Hb0 env σ H Hb _ rl e1 _ fun v H1 Hb1 g1 h1 => ?_
    cases h1
    exact ⟨_, rfl, q _ H1 Hb1 g1 (.bl _)⟩
  · cases e⟩

/-! ### comparisons -/
theorem rd_no {H Hb : Hp} {x : V} (h : Da K Hb x .none) : x = .non := by cases h; rfl
def oIsN (neg : Bool) (x y : PyData) : Option PyData := match y with
  | .none => some (.bool ((match x with | .none => true | _ => false) != neg))
  | _ => none
theorem opD_isN : OpD K (fun x y H Q => y = .non ∧ Q (.bl (decide (x = .non))) H) (oIsN false) := fun x y a b c H Hb g hx hy e Q q => by
  unfold oIsN at e
  split at e
  · cases hy
    refine ⟨rfl, ?_⟩
    cases e
    refine q _ H Hb (Grow.refl g) ?_
    cases hx <;> exact .bl _
  · cases e
theorem opD_notN : OpD K (fun x y H Q => y = .non ∧ Q (.bl (!decide (x = .non))) H) (oIsN true) := fun x y a b c H Hb g hx hy e Q q => by
  unfold oIsN at e
  split at e
  · cases hy
    refine ⟨rfl, ?_⟩
    cases e
    refine q _ H Hb (Grow.refl g) ?_
    cases hx <;> exact .bl _
  · cases e
def oEq (x y : PyData) : Option PyData := if SeqAt.shaped x = true ∧ SeqAt.shaped y = true then some (.bool (PyData.eqv x y)) else none
def oNe (x y : PyData) : Option PyData := if SeqAt.shaped x = true ∧ SeqAt.shaped y = true then some (.bool (!PyData.eqv x y)) else none
theorem opD_eq : OpD K (rEqD K) oEq := fun x y a b c H Hb g hx hy e Q q => by
  unfold oEq at e
  split at e
  · rename_i hs
    cases e
    exact ⟨a, b, da_dp _ _ (da_mono g _ _ hx), da_dp _ _ (da_mono g _ _ hy), hs.1, hs.2, q _ H Hb (Grow.refl g) (.bl _)⟩
  · cases e
theorem opD_ne : OpD K (rNeD K) oNe := fun x y a b c H Hb g hx hy e Q q => by
  unfold oNe at e
  split at e
  · rename_i hs
    cases e
    exact ⟨a, b, da_dp _ _ (da_mono g _ _ hx), da_dp _ _ (da_mono g _ _ hy), hs.1, hs.2, q _ H Hb (Grow.refl g) (.bl _)⟩
  · cases e
def oLt := oB fun i j => decide (i < j)
def oLe := oB fun i j => decide (i ≤ j)
def oGt := oB fun i j => decide (j < i)
def oGe := oB fun i j => decide (j ≤ i)
theorem jv_lt (ha : JV X K a ta fa) (hb : JV X K b tb fb) : JV X K (.Compare a [.Lt] [b] pos) (tOp (rI0 fun i j => .bl (decide (i < j))) ta tb) (fBin oLt fa fb) := ⟨pe_cmpR op_lt ha.pe hb.pe (nomark _), spV_bin ha.sp hb.sp opD_B0⟩
theorem jv_le (ha : JV X K a ta fa) (hb : JV X K b tb fb) : JV X K (.Compare a [.LtE] [b] pos) (tOp (rI0 fun i j => .bl (decide (i ≤ j))) ta tb) (fBin oLe fa fb) := ⟨pe_cmpR op_le ha.pe hb.pe (nomark _), spV_bin ha.sp hb.sp opD_B0⟩
theorem jv_gt (ha : JV X K a ta fa) (hb : JV X K b tb fb) : JV X K (.Compare a [.Gt] [b] pos) (tOp (rI0 fun i j => .bl (decide (j < i))) ta tb) (fBin oGt fa fb) := ⟨pe_cmpR op_gt ha.pe hb.pe (nomark _), spV_bin ha.sp hb.sp opD_B0⟩
theorem jv_ge (ha : JV X K a ta fa) (hb : JV X K b tb fb) : JV X K (.Compare a [.GtE] [b] pos) (tOp (rI0 fun i j => .bl (decide (j ≤ i))) ta tb) (fBin oGe fa fb) := ⟨pe_cmpR op_ge ha.pe hb.pe (nomark _), spV_bin ha.sp hb.sp opD_B0⟩
theorem jv_eq {k : Nat} (hr : Room k X.A) (ha : JV X K a ta fa) (hb : JV X K b tb fb) (hK : X.K = K := by rfl) : JV X K (.Compare a [.Eq] [b] pos) (tOp (rEqD K) ta tb) (fBin oEq fa fb) := by
  subst hK
  exact ⟨pe_cmpR (op_eqD hr.units) ha.pe hb.pe (nomark _), spV_bin ha.sp hb.sp opD_eq⟩
theorem jv_ne {k : Nat} (hr : Room k X.A) (ha : JV X K a ta fa) (hb : JV X K b tb fb) (hK : X.K = K := by rfl) : JV X K (.Compare a [.NotEq] [b] pos) (tOp (rNeD K) ta tb) (fBin oNe fa fb) := by
  subst hK
  exact ⟨pe_cmpR (op_neD hr.units) ha.pe hb.pe (nomark _), spV_bin ha.sp hb.sp opD_ne⟩
theorem jv_isN (ha : JV X K a ta fa) (hb : JV X K b tb fb) : JV X K (.Compare a [.Is] [b] pos) (tOp (fun x y H Q => y = .non ∧ Q (.bl (decide (x = .non))) H) ta tb) (fBin (oIsN false) fa fb) := ⟨pe_cmpR op_isN ha.pe hb.pe (nomark _), spV_bin ha.sp hb.sp opD_isN⟩
theorem jv_notN (ha : JV X K a ta fa) (hb : JV X K b tb fb) : JV X K (.Compare a [.IsNot] [b] pos) (tOp (fun x y H Q => y = .non ∧ Q (.bl (!decide (x = .non))) H) ta tb) (fBin (oIsN true) fa fb) := ⟨pe_cmpR op_notN ha.pe hb.pe (nomark _), spV_bin ha.sp hb.sp opD_notN⟩
end
end PD

set_option Elab.async false
set_option linter.all false
set_option maxRecDepth 100000
set_option maxHeartbeats 4000000
set_option autoImplicit false
namespace PD
variable {K : PySem.W.Frag}
open PySem PySem.Spec L2
open PyProof.Rows hiding St

/-! ### calls of built-ins -/
def CallD (K : PySem.W.Frag) (r : List V → Hp → VK → Prop) (op : List PyData → Option PyData) : Prop := ∀ (xs : List V) (ds : List PyData) (c : PyData) (H Hb : Hp), Same Hb H → DaAll K Hb xs ds → op ds = some c →
  ∀ Q : VK, (∀ v H' Hb', Grow H Hb H' Hb' → Da K Hb' v c → Q v H') → r xs H Q
def fCall (op : List PyData → Option PyData) (g : PEnv → Option (List PyData)) : PEnv → Option PyData := fun env => (g env).bind op
theorem da1 {H : Hp} {xs : List V} {d : PyData} (h : DaAll K H xs [d]) : ∃ v, xs = [v] ∧ Da K H v d := by
  cases h with
  | cons a t => cases t; exact ⟨_, rfl, a⟩
theorem da2 {H : Hp} {xs : List V} {d e : PyData} (h : DaAll K H xs [d, e]) : ∃ v w, xs = [v, w] ∧ Da K H v d ∧ Da K H w e := by
  cases h with
  | cons a t =>
    cases t with
    | cons b t => cases t; exact ⟨_, _, rfl, a, b⟩
section
variable {X : Cx} {pos p : Pos} {a b c e : Expr} {es : List Expr} {ta tb tc te : TE} {t : TA} {f fa fb fc : PEnv → Option PyData} {g : PEnv → Option (List PyData)}
theorem spV_call {r : List V → Hp → VK → Prop} {op : List PyData → Option PyData} (ha : SpA K t g) (ho : CallD K r op) : SpV K (tCB r t) (fCall op g) := fun H0 Hb0 env σ H Hb d rl e Q q => by
  unfold fCall at e
  obtain ⟨ds, e1, e⟩ := Option.bind_eq_some_iff.mp e
  refine ha H0 Hb0 env σ H Hb ds rl e1 _ fun vs H1 Hb1 g1 h1 => ?_
  exact ho vs ds d H1 Hb1 g1.sub h1 e Q fun z H3 Hb3 g3 h3 => q z H3 Hb3 (g1.trans g3) h3

def oAbs : List PyData → Option PyData
  | [.int i] => some (.int (if i < 0 then -i else i))
  | _ => none
theorem callD_abs : CallD K (fun xs H Q => ∃ i, xs = [.int i] ∧ Q (.int (if i < 0 then -i else i)) H) oAbs := fun xs ds c H Hb g h e Q q => by
  unfold oAbs at e
  split at e
  · cases e
    obtain ⟨v, rfl, hv⟩ := da1 h
    cases hv
    exact ⟨_, rfl, q _ H Hb (Grow.refl g) (.int _)⟩
  · cases e
def oInt : List PyData → Option PyData
  | [.int i] => some (.int i)
  | [.bool k] => some (.int (if k then 1 else 0))
  | _ => none
theorem callD_int : CallD K (fun xs H Q => (∃ i, xs = [.int i] ∧ Q (.int i) H) ∨ ∃ k, xs = [.bl k] ∧ Q (.int (if k then 1 else 0)) H) oInt := fun xs ds c H Hb g h e Q q => by
  unfold oInt at e
  split at e
  · cases e
    obtain ⟨v, rfl, hv⟩ := da1 h
    cases hv
    exact .inl ⟨_, rfl, q _ H Hb (Grow.refl g) (.int _)⟩
  · cases e
    obtain ⟨v, rfl, hv⟩ := da1 h
    cases hv
    exact .inr ⟨_, rfl, q _ H Hb (Grow.refl g) (.int _)⟩
  · cases e
def oMax2 : List PyData → Option PyData
  | [.int i, .int j] => some (.int (if j > i then j else i))
  | _ => none
theorem callD_max2 : CallD K (fun xs H Q => ∃ i j, xs = [.int i, .int j] ∧ Q (.int (if j > i then j else i)) H) oMax2 := fun xs ds c H Hb g h e Q q => by
  unfold oMax2 at e
  split at e
  · cases e
    obtain ⟨v, w, rfl, hv, hw⟩ := da2 h
    cases hv
    cases hw
    exact ⟨_, _, rfl, q _ H Hb (Grow.refl g) (.int _)⟩
  · cases e
def oMin2 : List PyData → Option PyData
  | [.int i, .int j] => some (.int (if j < i then j else i))
  | _ => none
theorem callD_min2 : CallD K (fun xs H Q => ∃ i j, xs = [.int i, .int j] ∧ Q (.int (if j < i then j else i)) H) oMin2 := fun xs ds c H Hb g h e Q q => by
  unfold oMin2 at e
  split at e
  · cases e
    obtain ⟨v, w, rfl, hv, hw⟩ := da2 h
    cases hv
    cases hw
    exact ⟨_, _, rfl, q _ H Hb (Grow.refl g) (.int _)⟩
  · cases e
/-- lists of truth values, of ints -/
def bools? : List PyData → Option (List Bool)
  | [] => some []
  | .bool b :: r => (bools? r).map (b :: ·)
  | _ => none
def ints? : List PyData → Option (List Int)
  | [] => some []
  | .int b :: r => (ints? r).map (b :: ·)
  | _ => none
theorem bools_of {H : Hp} : ∀ {ds : List PyData} {xs : List V} {bs : List Bool}, bools? ds = some bs → DaAll K H xs ds → xs = bs.map V.bl
  | [], _, _, h, .nil => by cases h; rfl
  | .bool b :: r, _, _, h, .cons a t => by
    obtain ⟨bs, h1, rfl⟩ := Option.map_eq_some_iff.mp h
    cases a
    rw [bools_of h1 t]; rfl
  | .none :: r, _, _, h, _ => by cases h
  | .int _ :: r, _, _, h, _ => by cases h
  | .str _ :: r, _, _, h, _ => by cases h
  | .list _ :: r, _, _, h, _ => by cases h
  | .tuple _ :: r, _, _, h, _ => by cases h
  | .dict _ :: r, _, _, h, _ => by cases h
theorem ints_of {H : Hp} : ∀ {ds : List PyData} {xs : List V} {bs : List Int}, ints? ds = some bs → DaAll K H xs ds → xs = bs.map V.int
  | [], _, _, h, .nil => by cases h; rfl
  | .int b :: r, _, _, h, .cons a t => by
    obtain ⟨bs, h1, rfl⟩ := Option.map_eq_some_iff.mp h
    cases a
    rw [ints_of h1 t]; rfl
  | .none :: r, _, _, h, _ => by cases h
  | .bool _ :: r, _, _, h, _ => by cases h
  | .str _ :: r, _, _, h, _ => by cases h
  | .list _ :: r, _, _, h, _ => by cases h
  | .tuple _ :: r, _, _, h, _ => by cases h
  | .dict _ :: r, _, _, h, _ => by cases h
def oAny : List PyData → Option PyData
  | [.list ds] => (bools? ds).map fun bs => .bool (bs.any id)
  | _ => none
def oAll : List PyData → Option PyData
  | [.list ds] => (bools? ds).map fun bs => .bool (bs.all id)
  | _ => none
def oSum : List PyData → Option PyData
  | [.list ds] => (ints? ds).map fun bs => .int bs.sum
  | _ => none
theorem callD_any : CallD K (rAny K) oAny := fun xs ds c H Hb g h e Q q => by
  unfold oAny at e
  split at e
  · obtain ⟨bs, h1, rfl⟩ := Option.map_eq_some_iff.mp e
    obtain ⟨v, rfl, hv⟩ := da1 h
    cases hv with
    | lst hs ha =>
      have e1 := bools_of h1 ha
      subst e1
      exact ⟨_, bs, rfl, (hs.mono g).sq, q _ H Hb (Grow.refl g) (.bl _)⟩
  · cases e
theorem callD_all : CallD K (rAll K) oAll := fun xs ds c H Hb g h e Q q => by
  unfold oAll at e
  split at e
  · obtain ⟨bs, h1, rfl⟩ := Option.map_eq_some_iff.mp e
    obtain ⟨v, rfl, hv⟩ := da1 h
    cases hv with
    | lst hs ha =>
      have e1 := bools_of h1 ha
      subst e1
      exact ⟨_, bs, rfl, (hs.mono g).sq, q _ H Hb (Grow.refl g) (.bl _)⟩
  · cases e
theorem callD_sum : CallD K (rSum K) oSum := fun xs ds c H Hb g h e Q q => by
  unfold oSum at e
  split at e
  · obtain ⟨bs, h1, rfl⟩ := Option.map_eq_some_iff.mp e
    obtain ⟨v, rfl, hv⟩ := da1 h
    cases hv with
    | lst hs ha =>
      have e1 := ints_of h1 ha
      subst e1
      exact ⟨_, bs, rfl, (hs.mono g).sq, q _ H Hb (Grow.refl g) (.int _)⟩
  · cases e
theorem jv_abs (hg : Gl X "abs") (hm : X.mg "abs" = none) (ha : JA X K [e] t g) (he : starEach [e] X.env = (false, eval e X.env) :: starEach [] X.env := by rfl) : JV X K (.Call (.Name "abs" p) [e] [] pos) (tCB (fun xs H Q => ∃ i, xs = [.int i] ∧ Q (.int (if i < 0 then -i else i)) H) t) (fCall oAbs g) :=
  ⟨pe_callB call_abs hg hm (by decide +kernel) ha.pa (he := he), spV_call ha.sp callD_abs⟩
theorem jv_intc (hg : Gl X "int") (hm : X.mg "int" = none) (ha : JA X K [e] t g) (he : starEach [e] X.env = (false, eval e X.env) :: starEach [] X.env := by rfl) : JV X K (.Call (.Name "int" p) [e] [] pos) (tCB (fun xs H Q => (∃ i, xs = [.int i] ∧ Q (.int i) H) ∨ ∃ k, xs = [.bl k] ∧ Q (.int (if k then 1 else 0)) H) t) (fCall oInt g) :=
  ⟨pe_callTy call_int1 hg hm (by decide +kernel) ha.pa (he := he), spV_call ha.sp callD_int⟩
theorem jv_max2 (hc : X.calm = true) (hg : Gl X "max") (hm : X.mg "max" = none) (ha : JA X K [e, a] t g) (he : starEach [e, a] X.env = (false, eval e X.env) :: starEach [a] X.env := by rfl) (hpl : ((backTo pos (starEach [a] X.env)).any fun x => x.fst) = false := by rfl) : JV X K (.Call (.Name "max" p) [e, a] [] pos) (tCB (fun xs H Q => ∃ i j, xs = [.int i, .int j] ∧ Q (.int (if j > i then j else i)) H) t) (fCall oMax2 g) :=
  ⟨pe_callB (call_max2 hc) hg hm (by decide +kernel) ha.pa (he := he) (hpl := hpl), spV_call ha.sp callD_max2⟩
theorem jv_min2 (hc : X.calm = true) (hg : Gl X "min") (hm : X.mg "min" = none) (ha : JA X K [e, a] t g) (he : starEach [e, a] X.env = (false, eval e X.env) :: starEach [a] X.env := by rfl) (hpl : ((backTo pos (starEach [a] X.env)).any fun x => x.fst) = false := by rfl) : JV X K (.Call (.Name "min" p) [e, a] [] pos) (tCB (fun xs H Q => ∃ i j, xs = [.int i, .int j] ∧ Q (.int (if j < i then j else i)) H) t) (fCall oMin2 g) :=
  ⟨pe_callB (call_min2 hc) hg hm (by decide +kernel) ha.pa (he := he) (hpl := hpl), spV_call ha.sp callD_min2⟩
theorem jv_any (hc : X.calm = true) (hg : Gl X "any") (hm : X.mg "any" = none) (ha : JA X K [e] t g) (he : starEach [e] X.env = (false, eval e X.env) :: starEach [] X.env := by rfl) (hK : X.K = K := by rfl) : JV X K (.Call (.Name "any" p) [e] [] pos) (tCB (rAny K) t) (fCall oAny g) := by
  subst hK
  exact ⟨pe_callB (cr_any hc) hg hm (by decide +kernel) ha.pa (he := he), spV_call ha.sp callD_any⟩
theorem jv_all (hc : X.calm = true) (hg : Gl X "all") (hm : X.mg "all" = none) (ha : JA X K [e] t g) (he : starEach [e] X.env = (false, eval e X.env) :: starEach [] X.env := by rfl) (hK : X.K = K := by rfl) : JV X K (.Call (.Name "all" p) [e] [] pos) (tCB (rAll K) t) (fCall oAll g) := by
  subst hK
  exact ⟨pe_callB (cr_all hc) hg hm (by decide +kernel) ha.pa (he := he), spV_call ha.sp callD_all⟩
theorem jv_sum (hc : X.calm = true) (hg : Gl X "sum") (hm : X.mg "sum" = none) (ha : JA X K [e] t g) (he : starEach [e] X.env = (false, eval e X.env) :: starEach [] X.env := by rfl) (hK : X.K = K := by rfl) : JV X K (.Call (.Name "sum" p) [e] [] pos) (tCB (rSum K) t) (fCall oSum g) := by
  subst hK
  exact ⟨pe_callB (cr_sum hc) hg hm (by decide +kernel) ha.pa (he := he), spV_call ha.sp callD_sum⟩

/-! ### len, list: of what is read -/
def oLen : PyData → Option PyData
  | .list ds => some (.int (ds.length : Int))
  | .tuple ds => some (.int (ds.length : Int))
  | _ => none
def rLenQ (K : PySem.W.Frag) : List V → Hp → VK → Prop := fun xs H Q => ∃ p ys, xs = [.ref p] ∧ (SqL K H p ys ∨ SqT K H p ys) ∧ Q (.int ys.length) H
theorem jv_len (hg : Gl X "len") (hm : X.mg "len" = none) (ha : JR X K e te f) (hs : starEach [e] X.env = (false, eval e X.env) :: starEach [] X.env := by rfl) (hK : X.K = K := by rfl) :
    JV X K (.Call (.Name "len" p) [e] [] pos) (tCB (rLenQ K) (tCons te tNil)) (fUn oLen f) := by
  subst hK
  refine ⟨pe_callB call_len_seq hg hm (by decide +kernel) (pa_cons ha.pe pa_nil hs) (he := hs), fun H0 Hb0 env σ H Hb d rl e Q q => ?_⟩
  unfold fUn at e
  obtain ⟨x, e1, e⟩ := Option.bind_eq_some_iff.mp e
  refine ha.sp H0 Hb0 env σ H Hb x rl e1 _ fun v H1 Hb1 g1 h1 => ?_
  unfold oLen at e
  split at e
  · cases e
    obtain ⟨l, xs, rfl, hr, hd⟩ := h1.list g1.sub
    exact ⟨l, xs, rfl, .inl hr.sq, by rw [daAll_len hd]; exact q _ H1 Hb1 g1 (.int _)⟩
  · cases e
    obtain ⟨l, xs, rfl, hr, hd⟩ := h1.tuple g1.sub
    exact ⟨l, xs, rfl, .inr (.inl hr), by rw [daAll_len hd]; exact q _ H1 Hb1 g1 (.int _)⟩
  · cases e
def fList (f : PEnv → Option PyData) : PEnv → Option (List PyData) := fun env => (f env).bind fun
  | .list ds => some ds
  | .tuple ds => some ds
  | _ => none
def rListQ (K : PySem.W.Frag) : List V → Hp → VK → Prop := fun xs H Q => ∃ p ys, xs = [.ref p] ∧ (SqL K H p ys ∨ SqT K H p ys) ∧ ∀ l, H l = none → Q (.ref l) (upd H l (.lst ys))
theorem jf_list (hg : Gl X "list") (hm : X.mg "list" = none) (ha : JR X K e te f) (hs : starEach [e] X.env = (false, eval e X.env) :: starEach [] X.env := by rfl) (hK : X.K = K := by rfl) :
    JF X K (.Call (.Name "list" p) [e] [] pos) (tCB (rListQ K) (tCons te tNil)) (fList f) := by
  subst hK
  refine ⟨pe_callTy call_list_of hg hm (by decide +kernel) (pa_cons ha.pe pa_nil hs) (he := hs), fun H0 Hb0 env σ H Hb d rl e Q q => ?_⟩
  unfold fList at e
  obtain ⟨x, e1, e⟩ := Option.bind_eq_some_iff.mp e
  refine ha.sp H0 Hb0 env σ H Hb x rl e1 _ fun v H1 Hb1 g1 h1 => ?_
  split at e
  · cases e
    obtain ⟨l, xs, rfl, hr, hd⟩ := h1.list g1.sub
    exact ⟨l, xs, rfl, .inl hr.sq, fun l' hl => q l' xs _ Hb1 (g1.trans (Grow.allocO g1.sub hl)) (g1.free hl) upd_same (g1.sub.free hl) hd⟩
  · cases e
    obtain ⟨l, xs, rfl, hr, hd⟩ := h1.tuple g1.sub
    exact ⟨l, xs, rfl, .inr (.inl hr), fun l' hl => q l' xs _ Hb1 (g1.trans (Grow.allocO g1.sub hl)) (g1.free hl) upd_same (g1.sub.free hl) hd⟩
  · cases e

/-! ### subscripts, slices -/
def oIx : PyData → PyData → Option PyData
  | .list ds, .int i => atI ds i
  | .tuple ds, .int i => atI ds i
  | _, _ => none
theorem atI_da {H : Hp} {xs : List V} {ds : List PyData} {i : Int} {d : PyData} (h : DaAll K H xs ds) (e : atI ds i = some d) : ∃ v, atI xs i = some v ∧ Da K H v d := by
  unfold atI at e ⊢
  rw [daAll_len h]
  obtain ⟨j, e1, e2⟩ := Option.bind_eq_some_iff.mp e
  obtain ⟨v, h1, h2⟩ := daAll_get h j d e2
  exact ⟨v, by rw [e1]; exact h1, h2⟩
def fIx (f g : PEnv → Option PyData) : PEnv → Option PyData := fBin oIx f g
def rIxQ (K : PySem.W.Frag) : R2 := fun x y H Q => rIxL K x y H Q ∨ rIxT K x y H Q
theorem jv_ix (ha : JR X K a ta fa) (hb : JV X K b tb fb) (hs : PlainIx b := by intro _ _; rfl) (hK : X.K = K := by rfl) : JV X K (.Subscript a b pos) (tOp (rIxQ K) ta tb) (fIx fa fb) := by
  subst hK
  refine ⟨pe_ix (ix_list.or ix_tup) ha.pe hb.pe hs, fun H0 Hb0 env σ H Hb d rl e Q q => ?_⟩
  unfold fIx fBin at e
  obtain ⟨x, e1, e⟩ := Option.bind_eq_some_iff.mp e
  obtain ⟨y, e2, e⟩ := Option.bind_eq_some_iff.mp e
  refine ha.sp H0 Hb0 env σ H Hb x rl e1 _ fun v H1 Hb1 g1 h1 => ?_
  refine hb.sp H0 Hb0 env σ H1 Hb1 y (rl.grow g1) e2 _ fun w H2 Hb2 g2 h2 => ?_
  have h1' := h1.grow g2
  unfold oIx at e
  split at e
  · obtain ⟨l, xs, rfl, hr, hd⟩ := h1'.list g2.sub
    obtain ⟨v, q1, q2⟩ := atI_da hd e
    cases h2
    exact .inl ⟨l, xs, _, v, rfl, rfl, hr.sq, q1, q v H2 Hb2 (g1.trans g2) q2⟩
  · obtain ⟨l, xs, rfl, hr, hd⟩ := h1'.tuple g2.sub
    obtain ⟨v, q1, q2⟩ := atI_da hd e
    cases h2
    exact .inr ⟨l, xs, _, v, rfl, rfl, .inl hr, q1, q v H2 Hb2 (g1.trans g2) q2⟩
  · cases e
/-- a part of a slice -/
def SpO (K : PySem.W.Frag) (t : TO) (f : PEnv → Option (Option Int)) : Prop := ∀ H0 Hb0 env σ H Hb o, Rel K H0 Hb0 env σ H Hb → f env = some o → ∀ Q : Option Int → Hp → Prop, (∀ H' Hb', Grow H Hb H' Hb' → Q o H') → t σ H Q
structure JO (X : Cx) (K : PySem.W.Frag) (e : Option Expr) (t : TO) (f : PEnv → Option (Option Int)) : Prop where
  po : PO X e t
  sp : SpO K t f
def fO0 : PEnv → Option (Option Int) := fun _ => some none
def fO1 (f : PEnv → Option PyData) : PEnv → Option (Option Int) := fun env => (f env).bind fun
  | .int i => some (some i)
  | _ => none
theorem jo_no : JO X K none tNoPart fO0 := ⟨po_none, fun H0 Hb0 env σ H Hb o rl e Q q => by cases e; exact q H Hb rl.refl⟩
theorem jo_some (ha : JV X K e te f) : JO X K (some e) (tPart te) (fO1 f) := ⟨po_some ha.pe, fun H0 Hb0 env σ H Hb o rl e Q q => by
  unfold fO1 at e
  obtain ⟨x, e1, e⟩ := Option.bind_eq_some_iff.mp e
  split at e
  · cases e
    refine ha.sp H0 Hb0 env σ H Hb _ rl e1 _ fun v H1 Hb1 g1 h1 => ?_
    cases h1
    exact ⟨_, rfl, q H1 Hb1 g1⟩
  · cases e⟩
def cutD (ds : List PyData) (lo hi : Option Int) : List PyData := (ds.drop (HT.sIx ds.length 0 lo)).take (HT.sIx ds.length ds.length hi - HT.sIx ds.length 0 lo)
theorem cut_da {H : Hp} {xs : List V} {ds : List PyData} (h : DaAll K H xs ds) (lo hi : Option Int) : DaAll K H (cutV xs lo hi) (cutD ds lo hi) := by
  unfold cutV cutD
  rw [daAll_len h]
  exact daAll_take _ (daAll_drop _ h)
def fSl (f : PEnv → Option PyData) (l h : PEnv → Option (Option Int)) : PEnv → Option (List PyData) := fun env => (f env).bind fun x => (l env).bind fun lo => (h env).bind fun hi => match x with
  | .list ds => some (cutD ds lo hi)
  | _ => none
theorem jf_sl {lo hi : Option Expr} {tl th : TO} {fl fh : PEnv → Option (Option Int)} {p2 : Pos} (ha : JR X K e te f) (hl : JO X K lo tl fl) (hh : JO X K hi th fh) (hK : X.K = K := by rfl) :
    JF X K (.Subscript e (.Slice lo hi none p2) pos) (tSl (rSlL K) te tl th) (fSl f fl fh) := by
  subst hK
  refine ⟨pe_slice sl_list ha.pe hl.po hh.po, fun H0 Hb0 env σ H Hb d rl e Q q => ?_⟩
  unfold fSl at e
  obtain ⟨x, e1, e⟩ := Option.bind_eq_some_iff.mp e
  obtain ⟨lo, e2, e⟩ := Option.bind_eq_some_iff.mp e
  obtain ⟨hi, e3, e⟩ := Option.bind_eq_some_iff.mp e
  refine ha.sp H0 Hb0 env σ H Hb x rl e1 _ fun v H1 Hb1 g1 h1 => ?_
  refine hl.sp H0 Hb0 env σ H1 Hb1 lo (rl.grow g1) e2 _ fun H2 Hb2 g2 => ?_
  refine hh.sp H0 Hb0 env σ H2 Hb2 hi (rl.grow (g1.trans g2)) e3 _ fun H3 Hb3 g3 => ?_
  have h1' := (h1.grow g2).grow g3
  split at e
  · cases e
    obtain ⟨l, xs, rfl, hr, hd⟩ := h1'.list g3.sub
    exact ⟨l, xs, rfl, hr.sq, fun l' hl => q l' _ _ Hb3 (((g1.trans g2).trans g3).trans (Grow.allocO g3.sub hl)) (((g1.trans g2).trans g3).free hl) upd_same (g3.sub.free hl) (cut_da hd lo hi)⟩
  · cases e

/-! ### bit_length, isinstance -/
def oBits : PyData → Option PyData
  | .int i => some (.int ((Builtin.Int.intBits i : Nat) : Int))
  | _ => none
theorem jv_bits {apos : Pos} (ha : JV X K e te f) (hbase : attributeBase e "bit_length" X.env (eval e X.env) = eval e X.env := by rfl) (hline : (apos.endLine == pos.line) = true := by rfl) :
    JV X K (.Call (.Attribute e "bit_length" apos) [] [] pos) (tBits te) (fUn oBits f) := ⟨pe_bits ha.pe hbase hline, fun H0 Hb0 env σ H Hb d rl e Q q => by
  unfold fUn at e
  obtain ⟨x, e1, e⟩ := Option.bind_eq_some_iff.mp e
  unfold oBits at e
  split at e
  · cases e
    refine ha.sp H0 Hb0 env σ H Hb _ rl e1 _ fun v H1 Hb1 g1 h1 => ?_
    cases h1
    exact ⟨_, rfl, q _ H1 Hb1 g1 (.int _)⟩
  · cases e⟩
end
end PD

set_option Elab.async false
set_option linter.all false
set_option maxRecDepth 100000
set_option maxHeartbeats 4000000
set_option autoImplicit false
namespace PD
variable {K : PySem.W.Frag}
open PySem PySem.Spec L2
open PyProof.Rows hiding St

/-! ### slots stored, forgotten, given up -/
section
variable {H0 Hb0 H Hb H' Hb' H1 Hb1 : Hp} {env : PEnv} {σ : L2.St} {v : V} {d : PyData} {p : Addr} {o : HO}
theorem Grow.poke (g : Grow H1 Hb1 H Hb) (h1 : H1 p = none) (hb : Hb p = none) : Grow H1 Hb1 (upd H p o) Hb := ⟨fun a u e => by
    rw [upd_ne (ne_of_none e h1)]; exact g.ex a u e, g.exb, fun a u e => by
    rw [upd_ne (ne_of_none e hb)]; exact g.sub a u e, g.new⟩
theorem get_set {α : Type} {l : List α} {i j : Nat} {x y : α} (h : (l.set i x)[j]? = some y) : (i = j ∧ x = y) ∨ (i ≠ j ∧ l[j]? = some y) := by
  rw [List.getElem?_set] at h
  split at h
  · split at h
    · exact .inl ⟨by assumption, Option.some.inj h⟩
    · cases h
  · exact .inr ⟨by assumption, h⟩
theorem Rel.set (r : Rel K H0 Hb0 env σ H Hb) (i : Nat) {b : Bool} (hv : SlotOk K H0 H Hb v d b) (hd : b = true → ∀ j dj, j ≠ i → env[j]? = some (some (dj, true)) → σ[j]? ≠ some (some v)) :
    Rel K H0 Hb0 (env.set i (some (d, b))) (σ.set i (some v)) H Hb where
  len := by rw [List.length_set, List.length_set]; exact r.len
  gr := r.gr
  slot := fun j d' b' e => by
    rcases get_set e with ⟨rfl, e'⟩ | ⟨ne, e'⟩
    · cases e'
      refine ⟨v, ?_, hv⟩
      have hl : i < env.length := by
        rcases Nat.lt_or_ge i env.length with h | h
        · exact h
        · rw [List.set_eq_of_length_le h, List.getElem?_eq_none h] at e
          cases e
      rw [List.getElem?_set_self (by rw [r.len]; exact hl)]
    · obtain ⟨w, h1, h2⟩ := r.slot j d' b' e'
      exact ⟨w, by rw [List.getElem?_set_ne ne]; exact h1, h2⟩
  dist := fun j k dj dk w ne ej ek sj sk => by
    rcases get_set ej with ⟨rfl, ej'⟩ | ⟨nj, ej'⟩
    · rcases get_set ek with ⟨z, _⟩ | ⟨nk, ek'⟩
      · exact ne z
      · cases ej'
        rw [List.getElem?_set_ne nk] at sk
        rcases get_set sj with ⟨_, q⟩ | ⟨q, _⟩
        · cases q
          exact hd rfl k dk (Ne.symm nk) ek' sk
        · exact q rfl
    · rw [List.getElem?_set_ne nj] at sj
      rcases get_set ek with ⟨rfl, ek'⟩ | ⟨nk, ek'⟩
      · cases ek'
        rcases get_set sk with ⟨_, q⟩ | ⟨q, _⟩
        · cases q
          exact hd rfl j dj (Ne.symm nj) ej' sj
        · exact q rfl
      · rw [List.getElem?_set_ne nk] at sk
        exact r.dist j k dj dk w ne ej' ek' sj sk
theorem Rel.setV (r : Rel K H0 Hb0 env σ H Hb) (i : Nat) (hv : Da K Hb v d) : Rel K H0 Hb0 (env.set i (some (d, false))) (σ.set i (some v)) H Hb := r.set i (b := false) hv fun z => nomatch z
theorem Rel.clear (r : Rel K H0 Hb0 env σ H Hb) (i : Nat) : Rel K H0 Hb0 (env.set i none) (σ.set i none) H Hb where
  len := by rw [List.length_set, List.length_set]; exact r.len
  gr := r.gr
  slot := fun j d' b' e => by
    rcases get_set e with ⟨rfl, e'⟩ | ⟨ne, e'⟩
    · cases e'
    · obtain ⟨w, h1, h2⟩ := r.slot j d' b' e'
      exact ⟨w, by rw [List.getElem?_set_ne ne]; exact h1, h2⟩
  dist := fun j k dj dk w ne ej ek sj sk => by
    rcases get_set ej with ⟨rfl, ej'⟩ | ⟨nj, ej'⟩
    · cases ej'
    · rcases get_set ek with ⟨rfl, ek'⟩ | ⟨nk, ek'⟩
      · cases ek'
      · rw [List.getElem?_set_ne nj] at sj
        rw [List.getElem?_set_ne nk] at sk
        exact r.dist j k dj dk w ne ej' ek' sj sk
def wipeE (env : PEnv) : List Nat → PEnv
  | [] => env
  | v :: vs => (wipeE env vs).set v none
theorem Rel.wipe (r : Rel K H0 Hb0 env σ H Hb) : ∀ vs : List Nat, Rel K H0 Hb0 (wipeE env vs) (L2.wipe σ vs) H Hb
  | [] => r
  | v :: vs => (Rel.wipe r vs).clear v
theorem wipe_set (x : Option V) (i : Nat) : ∀ (vs : List Nat) (σ : L2.St), i ∈ vs → L2.wipe (σ.set i x) vs = L2.wipe σ vs
  | v :: vs, σ, h => by
    show (L2.wipe (σ.set i x) vs).set v none = (L2.wipe σ vs).set v none
    by_cases e : i ∈ vs
    · rw [wipe_set x i vs σ e]
    · have ev : i = v := by
        rcases List.mem_cons.mp h with z | z
        · exact z
        · exact absurd z e
      subst ev
      have comm : ∀ (ws : List Nat) (τ : L2.St), i ∉ ws → L2.wipe (τ.set i x) ws = (L2.wipe τ ws).set i x := by
        intro ws
        induction ws with
        | nil => intro τ _; rfl
        | cons w ws ih =>
          intro τ hn
          show (L2.wipe (τ.set i x) ws).set w none = ((L2.wipe τ ws).set w none).set i x
          rw [ih τ fun z => hn (List.mem_cons_of_mem _ z), List.set_comm _ _ (fun z => hn (by rw [z]; exact List.mem_cons_self))]
      rw [comm vs σ e, List.set_set]
theorem wipe_wipe : ∀ (vs ws : List Nat) (σ : L2.St), (∀ v ∈ vs, v ∈ ws) → L2.wipe (L2.wipe σ vs) ws = L2.wipe σ ws
  | [], _, _, _ => rfl
  | v :: vs, ws, σ, h => by
    show L2.wipe ((L2.wipe σ vs).set v none) ws = _
    rw [wipe_set none v ws _ (h v List.mem_cons_self), wipe_wipe vs ws σ fun z hz => h z (List.mem_cons_of_mem _ hz)]
/-- a slot's list is given up: it may be shared from here on -/
def drop1 (env : PEnv) (i : Nat) : PEnv := match env[i]? with
  | some (some (d, _)) => env.set i (some (d, false))
  | _ => env
def dropE : List Nat → PEnv → PEnv
  | [], env => env
  | i :: is, env => dropE is (drop1 env i)
theorem Rel.drop1 (r : Rel K H0 Hb0 env σ H Hb) (i : Nat) : ∃ Hb', Rel K H0 Hb0 (drop1 env i) σ H Hb' := by
  unfold PD.drop1
  split
  · rename_i d b e
    cases b with
    | false =>
      have : env.set i (some (d, false)) = env := by
        apply List.ext_getElem?
        intro j
        rw [List.getElem?_set]
        split
        · rename_i z
          subst z
          split
          · exact e.symm
          · rename_i hl
            rw [List.getElem?_eq_none (Nat.le_of_not_lt hl)]
        · rfl
      rw [this]
      exact ⟨Hb, r⟩
    | true =>
      obtain ⟨w, hw, p, xs, ds, rfl, rfl, h1, h2, h3, h4⟩ := r.slot i d true e
      have hs : Same Hb (upd Hb p (.lst xs)) := Same.upd h2
      refine ⟨upd Hb p (.lst xs), ?_, ⟨r.gr.ex, r.gr.exb.trans hs, ?_, ?_⟩, ?_, ?_⟩
      · rw [List.length_set]; exact r.len
      · intro a u q
        by_cases z : a = p
        · subst z; rw [upd_same] at q; cases q; exact h1
        · rw [upd_ne z] at q; exact r.gr.sub a u q
      · intro a u q
        by_cases z : a = p
        · subst z; exact .inr h3
        · rw [upd_ne z] at q; exact r.gr.new a u q
      · intro j d' b' q
        rcases get_set q with ⟨rfl, q'⟩ | ⟨ne, q'⟩
        · cases q'
          exact ⟨.ref p, hw, .lst (.new upd_same) (daAll_mono hs _ _ h4)⟩
        · obtain ⟨u, g1, g2⟩ := r.slot j d' b' q'
          refine ⟨u, g1, ?_⟩
          cases b' with
          | false => exact da_mono hs _ _ g2
          | true =>
            obtain ⟨p', xs', ds', rfl, rfl, k1, k2, k3, k4⟩ := g2
            have np : p' ≠ p := fun z => by
              subst z
              exact r.dist i j _ _ _ ne e q' hw g1
            exact ⟨p', xs', ds', rfl, rfl, k1, by rw [upd_ne np]; exact k2, k3, daAll_mono hs _ _ k4⟩
      · intro j k dj dk u ne ej ek sj sk
        rcases get_set ej with ⟨rfl, ej'⟩ | ⟨nj, ej'⟩
        · cases ej'
        · rcases get_set ek with ⟨rfl, ek'⟩ | ⟨nk, ek'⟩
          · cases ek'
          · exact r.dist j k dj dk u ne ej' ek' sj sk
  · exact ⟨Hb, r⟩
theorem Rel.dropE : ∀ (is : List Nat) {env : PEnv} {Hb : Hp}, Rel K H0 Hb0 env σ H Hb → ∃ Hb', Rel K H0 Hb0 (dropE is env) σ H Hb'
  | [], _, Hb, r => ⟨Hb, r⟩
  | i :: is, _, _, r => by
    obtain ⟨Hb1, r1⟩ := r.drop1 i
    exact Rel.dropE is r1
end

/-! ### targets -/
def SpG (K : PySem.W.Frag) (g : TG) (bd : PyData → PEnv → Option PEnv) (is : List Nat) : Prop := ∀ H0 Hb0 env σ H Hb v d env', Rel K H0 Hb0 env σ H Hb → Da K Hb v d → bd d env = some env' →
  ∀ Q : L2.St → Hp → Prop, (∀ σ', Rel K H0 Hb0 env' σ' H Hb → (∀ vs, (∀ i ∈ is, i ∈ vs) → L2.wipe σ' vs = L2.wipe σ vs) → Q σ' H) → g v σ H Q
def SpGs (K : PySem.W.Frag) (g : TGs) (bd : List PyData → PEnv → Option PEnv) (is : List Nat) : Prop := ∀ H0 Hb0 env σ H Hb vs ds env', Rel K H0 Hb0 env σ H Hb → DaAll K Hb vs ds → bd ds env = some env' →
  ∀ Q : L2.St → Hp → Prop, (∀ σ', Rel K H0 Hb0 env' σ' H Hb → (∀ vs, (∀ i ∈ is, i ∈ vs) → L2.wipe σ' vs = L2.wipe σ vs) → Q σ' H) → g vs σ H Q
structure JG (X : Cx) (K : PySem.W.Frag) (e : Expr) (g : TG) (bd : PyData → PEnv → Option PEnv) (is : List Nat) : Prop where
  pg : PG X e g
  sp : SpG K g bd is
structure JGs (X : Cx) (K : PySem.W.Frag) (es : List Expr) (g : TGs) (bd : List PyData → PEnv → Option PEnv) (is : List Nat) (n : Nat) : Prop where
  pgs : PGs X es g
  sp : SpGs K g bd is
  len : ∀ ds env env', bd ds env = some env' → ds.length = n
def bN (i : Nat) : PyData → PEnv → Option PEnv := fun d env => some (env.set i (some (d, false)))
def bT (bs : List PyData → PEnv → Option PEnv) : PyData → PEnv → Option PEnv := fun d env => match d with
  | .tuple ds => bs ds env
  | _ => none
def bNil : List PyData → PEnv → Option PEnv := fun ds env => match ds with
  | [] => some env
  | _ => none
def bCons (b : PyData → PEnv → Option PEnv) (bs : List PyData → PEnv → Option PEnv) : List PyData → PEnv → Option PEnv := fun ds env => match ds with
  | d :: r => (b d env).bind fun env1 => bs r env1
  | [] => none
section
variable {X : Cx} {pos : Pos} {e : Expr} {es : List Expr} {g : TG} {gs : TGs} {bd : PyData → PEnv → Option PEnv} {bs : List PyData → PEnv → Option PEnv} {is js : List Nat} {n : Nat}
theorem jg_n {x : Str} (i : Nat) (hN : X.N.Nodup) (hi : X.N[i]? = some x := by rfl) (hx : Loc X.env.scope x := by first | exact Or.inl rfl | exact Or.inr rfl) (hf : X.fn x = true ∨ X.env.scope.names.lookup x = some .local := by first | exact .inl rfl | exact .inr rfl) :
    JG X K (.Name x pos) (gName i) (bN i) [i] := ⟨pg_name hN hi hx hf, fun H0 Hb0 env σ H Hb v d env' r hd e Q q => by
  cases e
  exact q _ (r.setV i hd) fun vs hm => wipe_set _ i vs σ (hm i List.mem_cons_self)⟩
theorem jgs_nil : JGs X K [] gNil bNil [] 0 := ⟨pgs_nil, fun H0 Hb0 env σ H Hb vs ds env' r hd e => (by
  unfold bNil at e
  split at e
  · cases e
    cases hd
    exact fun Q q => ⟨rfl, q σ r fun _ _ => rfl⟩
  · cases e), fun ds env env' e => by
  unfold bNil at e
  split at e
  · rfl
  · cases e⟩
theorem jgs_cons (h1 : JG X K e g bd is) (h2 : JGs X K es gs bs js n) (hs : (assignEach (e :: es) X.env).map (·.2) = assign e X.env :: (assignEach es X.env).map (·.2) := by rfl) :
    JGs X K (e :: es) (gCons g gs) (bCons bd bs) (is ++ js) (n + 1) := ⟨pgs_cons h1.pg h2.pgs hs, fun H0 Hb0 env σ H Hb vs ds env' r hd e => (by
  unfold bCons at e
  split at e
  · obtain ⟨env1, e1, e2⟩ := Option.bind_eq_some_iff.mp e
    cases hd with
    | cons a t =>
      refine fun Q q => ⟨_, _, rfl, h1.sp H0 Hb0 env σ H Hb _ _ env1 r a e1 _ fun σ1 r1 w1 => ?_⟩
      exact h2.sp H0 Hb0 env1 σ1 H Hb _ _ env' r1 t e2 Q fun σ2 r2 w2 => q σ2 r2 fun vs hm => by
          rw [w2 vs fun i hi => hm i (List.mem_append_right _ hi), w1 vs fun i hi => hm i (List.mem_append_left _ hi)]
  · cases e), fun ds env env' e => by
  unfold bCons at e
  split at e
  · obtain ⟨env1, e1, e2⟩ := Option.bind_eq_some_iff.mp e
    rw [List.length_cons, h2.len _ _ _ e2]
  · cases e⟩
theorem jg_t {k : Nat} (hc : X.calm = true) (h : JGs X K es gs bs is n) (hn : (assignEach es X.env).length = n := by rfl) (hst : (assignEach es X.env).findIdx? (·.1) = none := by rfl) (hK : X.K = K := by rfl) :
    JG X K (.Tuple es k pos) (gTup K n gs) (bT bs) is := by
  subst hK
  refine ⟨pg_tup hc h.pgs hn hst, fun H0 Hb0 env σ H Hb v d env' r hd e Q q => ?_⟩
  unfold bT at e
  split at e
  · cases hd with
    | tup hs ha => exact ⟨_, _, rfl, .inl (rd_mono r.gr.sub hs), (daAll_len ha).trans (h.len _ _ _ e), h.sp H0 Hb0 env σ H Hb _ _ env' r ha e Q q⟩
  · cases e
end
end PD

set_option Elab.async false
set_option linter.all false
set_option maxRecDepth 100000
set_option maxHeartbeats 4000000
set_option autoImplicit false
namespace PD
variable {K : PySem.W.Frag}
open PySem PySem.Spec L2
open PyProof.Rows hiding St

/-! ### tests -/
def fB (f : PEnv → Option PyData) : PEnv → Option Bool := fun env => (f env).bind fun
  | .bool b => some b
  | _ => none
def tru : PyData → Option Bool
  | .none => some false
  | .bool b => some b
  | .int i => some (i != 0)
  | .list ds => some (!ds.isEmpty)
  | .tuple ds => some (!ds.isEmpty)
  | _ => none
def fTru (f : PEnv → Option PyData) : PEnv → Option Bool := fun env => (f env).bind tru
def fAnd (f g : PEnv → Option Bool) : PEnv → Option Bool := fun env => (f env).bind fun b => if b = true then g env else some false
def fOr (f g : PEnv → Option Bool) : PEnv → Option Bool := fun env => (f env).bind fun b => if b = true then some true else g env
def fNot (f : PEnv → Option Bool) : PEnv → Option Bool := fun env => (f env).map fun b => !b
def fIf (c : PEnv → Option Bool) (f g : PEnv → Option PyData) : PEnv → Option PyData := fun env => (c env).bind fun b => if b = true then f env else g env
def fAndV (f g : PEnv → Option PyData) : PEnv → Option PyData := fun env => (f env).bind fun
  | .bool b => if b = true then g env else some (.bool false)
  | _ => none
def fOrV (f g : PEnv → Option PyData) : PEnv → Option PyData := fun env => (f env).bind fun
  | .bool b => if b = true then some (.bool true) else g env
  | _ => none
section
variable {X : Cx} {pos : Pos} {a b c e : Expr} {rest : List Expr} {ta tb te : TE} {tc td : TT} {f fa fb : PEnv → Option PyData} {g h : PEnv → Option Bool}
theorem jt_val (ha : JV X K e te f) (he : ∀ whole, isTrue e X.env whole = (do let v ← whole; standAt e.pos; holding [v] (truthy v)) := by intro _; rfl) : JT X K e (tB te) (fB f) :=
  ⟨pt_val ha.pe he, fun H0 Hb0 env σ H Hb b rl e Q q => by
    unfold fB at e
    obtain ⟨x, e1, e⟩ := Option.bind_eq_some_iff.mp e
    split at e
    · cases e
      refine ha.sp H0 Hb0 env σ H Hb _ rl e1 _ fun v H1 Hb1 g1 h1 => ?_
      cases h1
      exact ⟨_, rfl, q H1 Hb1 g1⟩
    · cases e⟩
theorem isEmpty_len {α β : Type} {xs : List α} {ys : List β} (h : xs.length = ys.length) : xs.isEmpty = ys.isEmpty := by
  cases xs <;> cases ys <;> simp_all
theorem jt_tru (ha : JR X K e te f) (he : ∀ whole, isTrue e X.env whole = (do let v ← whole; standAt e.pos; holding [v] (truthy v)) := by intro _; rfl) (hK : X.K = K := by rfl) : JT X K e (fun σ H Q => te σ H fun x H1 => ∃ k, TruV K x H1 k ∧ Q k H1) (fTru f) := by
  subst hK
  refine ⟨pt_truth ha.pe he, fun H0 Hb0 env σ H Hb b rl e Q q => ?_⟩
  unfold fTru at e
  obtain ⟨x, e1, e⟩ := Option.bind_eq_some_iff.mp e
  refine ha.sp H0 Hb0 env σ H Hb _ rl e1 _ fun v H1 Hb1 g1 h1 => ⟨b, ?_, q H1 Hb1 g1⟩
  unfold tru at e
  split at e
  · cases e
    have h2 := h1.toDp g1.sub
    cases h2
    show TruV X.K V.non H1 false
    simp only [TruV]
  · cases e
    have h2 := h1.toDp g1.sub
    cases h2
    simp only [TruV]
  · cases e
    have h2 := h1.toDp g1.sub
    cases h2
    simp only [TruV]
  · cases e
    obtain ⟨p, xs, rfl, hr, hd⟩ := h1.list g1.sub
    exact .inl ⟨xs, hr.sq, by rw [isEmpty_len (daAll_len hd)]⟩
  · cases e
    obtain ⟨p, xs, rfl, hr, hd⟩ := h1.tuple g1.sub
    exact .inr (.inl ⟨xs, .inl hr, by rw [isEmpty_len (daAll_len hd)]⟩)
  · cases e
theorem spT_and (ha : SpT K tc g) (hb : SpT K td h) : SpT K (tAnd tc td) (fAnd g h) := fun H0 Hb0 env σ H Hb b rl e Q q => by
  unfold fAnd at e
  obtain ⟨x, e1, e⟩ := Option.bind_eq_some_iff.mp e
  refine ha H0 Hb0 env σ H Hb x rl e1 _ fun H1 Hb1 g1 => ?_
  cases x with
  | true =>
    rw [if_pos rfl] at e ⊢
    exact hb H0 Hb0 env σ H1 Hb1 b (rl.grow g1) e Q fun H2 Hb2 g2 => q H2 Hb2 (g1.trans g2)
  | false =>
    rw [if_neg Bool.false_ne_true] at e ⊢
    cases e
    exact q H1 Hb1 g1
theorem spT_or (ha : SpT K tc g) (hb : SpT K td h) : SpT K (tOr tc td) (fOr g h) := fun H0 Hb0 env σ H Hb b rl e Q q => by
  unfold fOr at e
  obtain ⟨x, e1, e⟩ := Option.bind_eq_some_iff.mp e
  refine ha H0 Hb0 env σ H Hb x rl e1 _ fun H1 Hb1 g1 => ?_
  cases x with
  | true =>
    rw [if_pos rfl] at e ⊢
    cases e
    exact q H1 Hb1 g1
  | false =>
    rw [if_neg Bool.false_ne_true] at e ⊢
    exact hb H0 Hb0 env σ H1 Hb1 b (rl.grow g1) e Q fun H2 Hb2 g2 => q H2 Hb2 (g1.trans g2)
theorem jw_and1 (ha : JT X K a tc g) : JW X K (.BoolOp .And [a] pos) tc g := ⟨pw_and1 ha.pt, ha.sp⟩
theorem jw_or1 (ha : JT X K a tc g) : JW X K (.BoolOp .Or [a] pos) tc g := ⟨pw_or1 ha.pt, ha.sp⟩
theorem jw_and (ha : JT X K a tc g) (hb : JW X K (.BoolOp .And (b :: rest) pos) td h) : JW X K (.BoolOp .And (a :: b :: rest) pos) (tAnd tc td) (fAnd g h) := ⟨pw_and ha.pt hb.pw, spT_and ha.sp hb.sp⟩
theorem jw_or (ha : JT X K a tc g) (hb : JW X K (.BoolOp .Or (b :: rest) pos) td h) : JW X K (.BoolOp .Or (a :: b :: rest) pos) (tOr tc td) (fOr g h) := ⟨pw_or ha.pt hb.pw, spT_or ha.sp hb.sp⟩
theorem JW.t (ha : JW X K e tc g) : JT X K e tc g := ⟨ha.pw.pt, ha.sp⟩
theorem jt_not (ha : JT X K a tc g) : JT X K (.UnaryOp .Not a pos) (tNot tc) (fNot g) := ⟨pt_not ha.pt, fun H0 Hb0 env σ H Hb b rl e Q q => by
  unfold fNot at e
  obtain ⟨x, e1, e⟩ := Option.map_eq_some_iff.mp e
  subst e
  exact ha.sp H0 Hb0 env σ H Hb x rl e1 _ fun H1 Hb1 g1 => q H1 Hb1 g1⟩
theorem jv_one {op : BoolOp} (ha : JV X K a ta fa) : JV X K (.BoolOp op [a] pos) ta fa := ⟨pe_one ha.pe, ha.sp⟩
theorem jv_and (ha : JV X K a ta fa) (hb : JV X K (.BoolOp .And (b :: rest) pos) tb fb) : JV X K (.BoolOp .And (a :: b :: rest) pos) (tAndV ta tb) (fAndV fa fb) := ⟨pe_and ha.pe hb.pe, fun H0 Hb0 env σ H Hb d rl e Q q => by
  unfold fAndV at e
  obtain ⟨x, e1, e⟩ := Option.bind_eq_some_iff.mp e
  split at e
  · rename_i k
    refine ha.sp H0 Hb0 env σ H Hb _ rl e1 _ fun v H1 Hb1 g1 h1 => ?_
    cases h1
    refine ⟨k, rfl, ?_⟩
    cases k with
    | true =>
      rw [if_pos rfl] at e ⊢
      exact hb.sp H0 Hb0 env σ H1 Hb1 d (rl.grow g1) e Q fun v H2 Hb2 g2 h2 => q v H2 Hb2 (g1.trans g2) h2
    | false =>
      rw [if_neg Bool.false_ne_true] at e ⊢
      cases e
      exact q _ H1 Hb1 g1 (.bl _)
  · cases e⟩
theorem jv_or (ha : JV X K a ta fa) (hb : JV X K (.BoolOp .Or (b :: rest) pos) tb fb) : JV X K (.BoolOp .Or (a :: b :: rest) pos) (tOrV ta tb) (fOrV fa fb) := ⟨pe_or ha.pe hb.pe, fun H0 Hb0 env σ H Hb d rl e Q q => by
  unfold fOrV at e
  obtain ⟨x, e1, e⟩ := Option.bind_eq_some_iff.mp e
  split at e
  · rename_i k
    refine ha.sp H0 Hb0 env σ H Hb _ rl e1 _ fun v H1 Hb1 g1 h1 => ?_
    cases h1
    refine ⟨k, rfl, ?_⟩
    cases k with
    | true =>
      rw [if_pos rfl] at e ⊢
      cases e
      exact q _ H1 Hb1 g1 (.bl _)
    | false =>
      rw [if_neg Bool.false_ne_true] at e ⊢
      exact hb.sp H0 Hb0 env σ H1 Hb1 d (rl.grow g1) e Q fun v H2 Hb2 g2 h2 => q v H2 Hb2 (g1.trans g2) h2
  · cases e⟩
theorem jv_if (hc : JT X K c tc g) (ha : JV X K a ta fa) (hb : JV X K b tb fb) : JV X K (.IfExp c a b pos) (tIf tc ta tb) (fIf g fa fb) := ⟨pe_ifExp hc.pt ha.pe hb.pe, fun H0 Hb0 env σ H Hb d rl e Q q => by
  unfold fIf at e
  obtain ⟨x, e1, e⟩ := Option.bind_eq_some_iff.mp e
  refine hc.sp H0 Hb0 env σ H Hb x rl e1 _ fun H1 Hb1 g1 => ?_
  cases x with
  | true =>
    rw [if_pos rfl] at e ⊢
    exact ha.sp H0 Hb0 env σ H1 Hb1 d (rl.grow g1) e Q fun v H2 Hb2 g2 h2 => q v H2 Hb2 (g1.trans g2) h2
  | false =>
    rw [if_neg Bool.false_ne_true] at e ⊢
    exact hb.sp H0 Hb0 env σ H1 Hb1 d (rl.grow g1) e Q fun v H2 Hb2 g2 h2 => q v H2 Hb2 (g1.trans g2) h2⟩
end

/-! ### what is walked -/
def iL (f : PEnv → Option PyData) : PEnv → Option (List PyData) := fun env => (f env).bind fun
  | .list ds => some ds
  | _ => none
def iTu (f : PEnv → Option PyData) : PEnv → Option (List PyData) := fun env => (f env).bind fun
  | .tuple ds => some ds
  | _ => none
def rangeD (lo : Int) (n : Nat) : List PyData := (List.range n).map fun (k : Nat) => PyData.int (lo + k)
def iR1 (g : PEnv → Option (List PyData)) : PEnv → Option (List PyData) := fun env => (g env).bind fun
  | [.int n] => if -1000000000 ≤ n ∧ n ≤ 1000000000 then some (rangeD 0 n.toNat) else none
  | _ => none
def iR2 (g : PEnv → Option (List PyData)) : PEnv → Option (List PyData) := fun env => (g env).bind fun
  | [.int m, .int n] => if (-1000000000 ≤ n ∧ n ≤ 1000000000) ∧ -1000000000 ≤ m ∧ m ≤ 1000000000 then some (rangeD m (n - m).toNat) else none
  | _ => none
/-- range(n) from its end -/
def iRev1 (f : PEnv → Option PyData) : PEnv → Option (List PyData) := fun env => (f env).bind fun
  | .int n => if -1000000000 ≤ n ∧ n ≤ 1000000000 then some ((List.range n.toNat).map fun (k : Nat) => PyData.int (((n.toNat : Nat) : Int) - 1 - k)) else none
  | _ => none
section
variable {X : Cx} {tg e a : Expr} {te : TE} {t : TA} {f : PEnv → Option PyData} {g : PEnv → Option (List PyData)} {p p2 pos pos2 : Pos}
theorem ji_l (ha : JV X K e te f) (hK : X.K = K := by rfl) : JI X K tg e (iList K te) (iL f) := by
  subst hK
  refine ⟨pi_list ha.pe, fun H0 Hb0 env σ H Hb ds rl e R q => ?_⟩
  unfold iL at e
  obtain ⟨x, e1, e⟩ := Option.bind_eq_some_iff.mp e
  split at e
  · cases e
    refine ha.sp H0 Hb0 env σ H Hb _ rl e1 _ fun v H1 Hb1 g1 h1 => ?_
    cases h1 with
    | lst hs had =>
      rename_i a xs
      refine ⟨a, rfl, ⟨xs, (hs.mono g1.sub).sq⟩, q _ H1 Hb1 g1 fun i H2 Hb2 s1 s2 => ⟨fun d hd => ?_, fun hl => ?_⟩⟩
      · obtain ⟨v, h1, h2⟩ := daAll_get had i d hd
        refine ⟨⟨xs, v, ((hs.mono s1).mono s2).sq, h1⟩, fun x H' hy => ?_⟩
        obtain ⟨rfl, hy⟩ := hy
        have e3 := (hy xs (((hs.mono s1).mono s2).sq)).symm.trans h1
        cases e3
        exact ⟨Hb2, Grow.refl s2, da_mono s1 _ _ h2⟩
      · exact ⟨xs, ((hs.mono s1).mono s2).sq, by rw [daAll_len had]; exact hl⟩
  · cases e
theorem ji_t (ha : JV X K e te f) (hK : X.K = K := by rfl) : JI X K tg e (iTup K te) (iTu f) := by
  subst hK
  refine ⟨pi_tup ha.pe, fun H0 Hb0 env σ H Hb ds rl e R q => ?_⟩
  unfold iTu at e
  obtain ⟨x, e1, e⟩ := Option.bind_eq_some_iff.mp e
  split at e
  · cases e
    refine ha.sp H0 Hb0 env σ H Hb _ rl e1 _ fun v H1 Hb1 g1 h1 => ?_
    cases h1 with
    | tup hs had =>
      rename_i a xs
      refine ⟨a, rfl, ⟨xs, .inl (rd_mono g1.sub hs)⟩, q _ H1 Hb1 g1 fun i H2 Hb2 s1 s2 => ⟨fun d hd => ?_, fun hl => ?_⟩⟩
      · obtain ⟨v, h1, h2⟩ := daAll_get had i d hd
        refine ⟨⟨xs, v, .inl (rd_mono s2 (rd_mono s1 hs)), h1⟩, fun x H' hy => ?_⟩
        obtain ⟨rfl, hy⟩ := hy
        have e3 := (hy xs (.inl (rd_mono s2 (rd_mono s1 hs)))).symm.trans h1
        cases e3
        exact ⟨Hb2, Grow.refl s2, da_mono s1 _ _ h2⟩
      · exact ⟨xs, .inl (rd_mono s2 (rd_mono s1 hs)), by rw [daAll_len had]; exact hl⟩
  · cases e
theorem itOk_range {lo : Int} {n : Nat} {Hb1 : Hp} : ItOk K (Itr lo n) (rangeD lo n) Hb1 := fun i H Hb s1 s2 => ⟨fun d hd => by
  unfold rangeD at hd
  rw [List.getElem?_map] at hd
  obtain ⟨k, h1, rfl⟩ := Option.map_eq_some_iff.mp hd
  obtain ⟨hl, h2⟩ := List.getElem?_eq_some_iff.mp h1
  rw [List.getElem_range] at h2
  subst h2
  rw [List.length_range] at hl
  refine ⟨hl, fun x H' hy => ?_⟩
  obtain ⟨rfl, rfl⟩ := hy
  exact ⟨Hb, Grow.refl s2, .int _⟩, fun hl => by
  unfold rangeD at hl
  rw [List.length_map, List.length_range] at hl
  exact hl⟩
theorem ji_r1 (hg : Gl X "range") (hm : X.mg "range" = none) (ha : JA X K [a] t g) (hs : starEach [a] X.env = [(false, eval a X.env)] := by rfl) : JI X K tg (.Call (.Name "range" p) [a] [] pos) (iRng1 t) (iR1 g) := by
  refine ⟨pi_range1 hg hm ha.pa hs, fun H0 Hb0 env σ H Hb ds rl e R q => ?_⟩
  unfold iR1 at e
  obtain ⟨x, e1, e⟩ := Option.bind_eq_some_iff.mp e
  split at e
  · split at e
    · rename_i n hn
      cases e
      refine ha.sp H0 Hb0 env σ H Hb _ rl e1 _ fun vs H1 Hb1 g1 h1 => ?_
      obtain ⟨v, rfl, hv⟩ := da1 h1
      cases hv
      exact ⟨n, rfl, by omega, by omega, q _ H1 Hb1 g1 itOk_range⟩
    · cases e
  · cases e
theorem ji_r2 {b : Expr} (hg : Gl X "range") (hm : X.mg "range" = none) (ha : JA X K [a, b] t g) (hs : starEach [a, b] X.env = [(false, eval a X.env), (false, eval b X.env)] := by rfl) (hs2 : starEach [b] X.env = [(false, eval b X.env)] := by rfl) : JI X K tg (.Call (.Name "range" p) [a, b] [] pos) (iRng2 t) (iR2 g) := by
  refine ⟨pi_range2 hg hm ha.pa hs hs2, fun H0 Hb0 env σ H Hb ds rl e R q => ?_⟩
  unfold iR2 at e
  obtain ⟨x, e1, e⟩ := Option.bind_eq_some_iff.mp e
  split at e
  · split at e
    · rename_i m n hn
      cases e
      refine ha.sp H0 Hb0 env σ H Hb _ rl e1 _ fun vs H1 Hb1 g1 h1 => ?_
      obtain ⟨v, w, rfl, hv, hw⟩ := da2 h1
      cases hv
      cases hw
      exact ⟨m, n, rfl, by omega, q _ H1 Hb1 g1 itOk_range⟩
    · cases e
  · cases e
theorem ji_rev1 (hgv : Gl X "reversed") (hmv : X.mg "reversed" = none) (hg : Gl X "range") (hm : X.mg "range" = none) (ha : JV X K a te f) (na : starEach [a] X.env = (false, eval a X.env) :: starEach [] X.env := by rfl)
    (hs : starEach [Expr.Call (.Name "range" p) [a] [] pos] X.env = (false, eval (Expr.Call (.Name "range" p) [a] [] pos) X.env) :: starEach [] X.env := by rfl) :
    JI X K tg (.Call (.Name "reversed" p2) [.Call (.Name "range" p) [a] [] pos] [] pos2) (iRevR (tRg1 te)) (iRev1 f) := by
  refine ⟨pi_revR hgv hmv (prg_1 hg hm ha.pe na) hs, fun H0 Hb0 env σ H Hb ds rl e R q => ?_⟩
  unfold iRev1 at e
  obtain ⟨x, e1, e⟩ := Option.bind_eq_some_iff.mp e
  split at e
  · split at e
    · rename_i n hn
      cases e
      refine ha.sp H0 Hb0 env σ H Hb _ rl e1 _ fun v H1 Hb1 g1 h1 => ?_
      cases h1
      refine ⟨n, rfl, by omega, by omega, by omega, by omega, q _ H1 Hb1 g1 ?_⟩
      have e0 : n - 0 = n := by omega
      rw [e0]
      refine fun i H Hb s1 s2 => ⟨fun d hd => ?_, fun hl => ?_⟩
      · rw [List.getElem?_map] at hd
        obtain ⟨k, h1, rfl⟩ := Option.map_eq_some_iff.mp hd
        obtain ⟨hl, h2⟩ := List.getElem?_eq_some_iff.mp h1
        rw [List.getElem_range] at h2
        subst h2
        rw [List.length_range] at hl
        refine ⟨hl, fun x H' hy => ?_⟩
        obtain ⟨rfl, rfl⟩ := hy
        refine ⟨Hb, Grow.refl s2, ?_⟩
        have e2 : (0 : Int) + ((n.toNat : Nat) : Int) - 1 + ((i : Nat) : Int) * (-1) = ((n.toNat : Nat) : Int) - 1 - ((i : Nat) : Int) := by omega
        rw [e2]
        exact .int _
      · rw [List.length_map, List.length_range] at hl
        exact hl
    · cases e
  · cases e
end
end PD

set_option Elab.async false
set_option linter.all false
set_option maxRecDepth 100000
set_option maxHeartbeats 4000000
set_option autoImplicit false
namespace PD
variable {K : PySem.W.Frag}
open PySem PySem.Spec L2
open PyProof.Rows hiding St

/-! ### comprehensions of one for -/
def compL (bd : PyData → PEnv → Option PEnv) (ft : PEnv → Option Bool) (fe : PEnv → Option PyData) (env : PEnv) : List PyData → Option (List PyData)
  | [] => some []
  | d :: ds => (bd d env).bind fun env1 => (ft env1).bind fun b => if b = true then (fe env1).bind fun y => (compL bd ft fe env ds).map fun r => y :: r else compL bd ft fe env ds
def fComp (vs : List Nat) (fi : PEnv → Option (List PyData)) (bd : PyData → PEnv → Option PEnv) (ft : PEnv → Option Bool) (fe : PEnv → Option PyData) : PEnv → Option (List PyData) := fun env =>
  (fi env).bind fun ds => if ds.length ≤ 1000000 then compL bd ft fe (wipeE env vs) ds else none
def fYes : PEnv → Option Bool := fun _ => some true
theorem spT_yes : SpT K tYes fYes := fun H0 Hb0 env σ H Hb b rl e Q q => by cases e; exact q H Hb rl.refl
structure JTs (X : Cx) (K : PySem.W.Frag) (es : List Expr) (t : TT) (f : PEnv → Option Bool) : Prop where
  pts : PTs X es t
  sp : SpT K t f
section
variable {X : Cx} {pos : Pos} {elt tg iter c : Expr} {ifs : List Expr} {wi : TI} {g : TG} {tt : TT} {te : TE} {fi : PEnv → Option (List PyData)} {bd : PyData → PEnv → Option PEnv} {ft : PEnv → Option Bool} {fe : PEnv → Option PyData} {is vs : List Nat}
theorem jts_nil : JTs X K [] tYes fYes := ⟨pts_nil, spT_yes⟩
theorem jts_one (h : JT X K c tt ft) : JTs X K [c] tt ft := ⟨pts_one h.pt, h.sp⟩
theorem spF_comp (hi : SpI K wi fi) (hg : SpG K g bd is) (ht : SpT K tt ft) (he : SpV K te fe) (hv : ∀ i ∈ is, i ∈ vs) : SpF K (tLc wi g tt te vs) (fComp vs fi bd ft fe) := fun H0 Hb0 env σ H Hb es rl e Q q => by
  unfold fComp at e
  obtain ⟨ds, e1, e⟩ := Option.bind_eq_some_iff.mp e
  split at e
  · rename_i hsz
    refine hi H0 Hb0 env σ H Hb ds rl e1 _ fun J H1 Hb1 g1 hJ D hD => ?_
    have rl1 := rl.grow g1
    refine ⟨fun i m Hc => m = ds.length - i ∧ i ≤ ds.length ∧ ∃ Hcb xs done rest, Grow H1 Hb1 Hc Hcb ∧ Hc D = some (.lst xs) ∧ Hcb D = none ∧ DaAll K Hcb xs done ∧ xs.length ≤ i ∧ compL bd ft fe (wipeE env vs) (ds.drop i) = some rest ∧ done ++ rest = es,
      ⟨ds.length, by omega, Nat.zero_le _, Hb1, [], [], es, (Grow.refl g1.sub).poke hD (g1.sub.free hD), upd_same, g1.sub.free hD, .nil, Nat.zero_le _, by rw [List.drop_zero]; exact e, rfl⟩, fun i m Hc hW => ?_⟩
    obtain ⟨hm, hi', Hcb, xs, done, rest, gc, hxs, hDb, hda, hxl, hcomp, hsum⟩ := hW
    have hJi := hJ i Hc Hcb gc.exb gc.sub
    by_cases hlt : i < ds.length
    · have hd : ds[i]? = some ds[i] := List.getElem?_eq_getElem hlt
      obtain ⟨go, yld⟩ := hJi.1 _ hd
      rw [List.drop_eq_getElem_cons hlt] at hcomp
      unfold compL at hcomp
      obtain ⟨env1, c1, hcomp⟩ := Option.bind_eq_some_iff.mp hcomp
      obtain ⟨b, c2, hcomp⟩ := Option.bind_eq_some_iff.mp hcomp
      refine .inr ⟨go, fun Hn => ∃ Hcb xs done rest, Grow H1 Hb1 Hn Hcb ∧ Hn D = some (.lst xs) ∧ Hcb D = none ∧ DaAll K Hcb xs done ∧ xs.length ≤ i + 1 ∧ compL bd ft fe (wipeE env vs) (ds.drop (i + 1)) = some rest ∧ done ++ rest = es,
        fun H' hn => ⟨ds.length - (i + 1), by omega, rfl, hlt, hn⟩, fun x H2 hy => ?_⟩
      obtain ⟨Hb2, g2, hx⟩ := yld x H2 hy
      have gc2 := gc.trans g2
      have rl2 := (rl1.grow gc2).wipe vs
      refine hg H0 Hb0 _ _ H2 Hb2 x _ env1 rl2 hx c1 _ fun σ3 rl3 w3 => ⟨?_, ?_⟩
      · rw [w3 vs hv, wipe_wipe vs vs σ fun _ h => h]
      · refine ht H0 Hb0 _ _ H2 Hb2 b rl3 c2 _ fun H3 Hb3 g3 => ?_
        have D3 : H3 D = some (.lst xs) := g3.ex _ _ (g2.ex _ _ hxs)
        have D3b : Hb3 D = none := g3.keep (g2.ex _ _ hxs) (g2.keep hxs hDb)
        cases b with
        | true =>
          rw [if_pos rfl] at hcomp ⊢
          obtain ⟨y, c3, hcomp⟩ := Option.bind_eq_some_iff.mp hcomp
          obtain ⟨r, c4, hcomp⟩ := Option.map_eq_some_iff.mp hcomp
          subst hcomp
          refine he H0 Hb0 _ _ H3 Hb3 y (rl3.grow g3) c3 _ fun v H4 Hb4 g4 hvy => ⟨xs, g4.ex _ _ D3, ?_, Hb4, xs ++ [v], done ++ [y], r, ?_, upd_same, g4.keep D3 D3b, ?_, ?_, c4, ?_⟩
          · rw [line24_eq]
            show xs.length < 16777216
            omega
          · exact ((gc2.trans g3).trans g4).poke hD (g4.keep D3 D3b)
          · exact daAll_append (daAll_mono ((g2.exb.trans g3.exb).trans g4.exb) _ _ hda) (.cons hvy .nil)
          · rw [List.length_append]
            exact Nat.succ_le_succ hxl
          · rw [List.append_assoc]
            exact hsum
        | false =>
          rw [if_neg Bool.false_ne_true] at hcomp ⊢
          exact ⟨Hb3, xs, done, rest, gc2.trans g3, D3, D3b, daAll_mono (g2.exb.trans g3.exb) _ _ hda, Nat.le_succ_of_le hxl, hcomp, hsum⟩
    · have hle : ds.length ≤ i := Nat.le_of_not_lt hlt
      refine .inl ⟨hJi.2 hle, ?_⟩
      rw [List.drop_eq_nil_of_le hle] at hcomp
      cases hcomp
      rw [List.append_nil] at hsum
      subst hsum
      exact q D xs Hc Hcb (g1.trans gc) (g1.free hD) hxs hDb hda
  · cases e
theorem jf_lc {scope : Scope} {own : List (Str × Nat)} (hc : X.calm = true) (hN : X.N.Nodup) (hi : JI X K tg iter wi fi) (ok : BlkOk X.N X.env.scope scope own)
    (hg : ∀ (s : Shared) (H : Hp) (C : Addr) (cl : List (Str × Addr)) (fp : List Addr), JG (X.blk s H scope (compEnvC scope cl C X.env) fp) K tg g bd is)
    (ht : ∀ (s : Shared) (H : Hp) (C : Addr) (cl : List (Str × Addr)) (fp : List Addr), JTs (X.blk s H scope (compEnvC scope cl C X.env) fp) K ifs tt ft)
    (he : ∀ (s : Shared) (H : Hp) (C : Addr) (cl : List (Str × Addr)) (fp : List Addr), JV (X.blk s H scope (compEnvC scope cl C X.env) fp) K elt te fe)
    (hs : ∀ x, foldedSetIterable iter X.env x = pure x := by intro _; rfl) (hv : ∀ i ∈ is, i ∈ own.map (·.2) := by decide) :
    JF X K (.ListComp elt [⟨tg, iter, ifs, 0⟩] scope pos) (tLc wi g tt te (own.map (·.2))) (fComp (own.map (·.2)) fi bd ft fe) :=
  ⟨pe_lc hc hN hi.pi ok (fun s H C cl fp => (hg s H C cl fp).pg) (fun s H C cl fp => (ht s H C cl fp).pts) (fun s H C cl fp => (he s H C cl fp).pe) hs,
    spF_comp hi.sp (hg X.s_0 X.H_0 0 [] []).sp (ht X.s_0 X.H_0 0 [] []).sp (he X.s_0 X.H_0 0 [] []).sp hv⟩
end

/-! ### defs -/
/-- what a def promises: from data to data; the flag tells that the answer is a list of its own -/
def spD (K : PySem.W.Frag) (g : List PyData → Option (PyData × Bool)) : Sp := fun vs H Q _ => ∃ Hb ds d b, Same Hb H ∧ DaAll K Hb vs ds ∧ g ds = some (d, b) ∧ ∀ v H' Hb', Grow H Hb H' Hb' → SlotOk K H H' Hb' v d b → Q v H'
def fDef (gd : List PyData → Option (PyData × Bool)) (g : PEnv → Option (List PyData)) : PEnv → Option PyData := fun env => (g env).bind fun ds => (gd ds).map (·.1)
def fDefF (gd : List PyData → Option (PyData × Bool)) (g : PEnv → Option (List PyData)) : PEnv → Option (List PyData) := fun env => (g env).bind fun ds => (gd ds).bind fun
  | (.list es, true) => some es
  | _ => none
section
variable {X : Cx} {pos p : Pos} {e : Expr} {es : List Expr} {t : TA} {g : PEnv → Option (List PyData)} {gd : List PyData → Option (PyData × Bool)} {k : Nat} {f : Addr} {fd : FuncData} {ps : List Str} {x : Str}
theorem spV_def {E : XK} (ha : SpA K t g) : SpV K (tCall (spD K gd) [] E t) (fDef gd g) := fun H0 Hb0 env σ H Hb d rl e Q q => by
  unfold fDef at e
  obtain ⟨ds, e1, e⟩ := Option.bind_eq_some_iff.mp e
  obtain ⟨⟨d', b⟩, e2, e3⟩ := Option.map_eq_some_iff.mp e
  have e3 : d' = d := e3
  subst e3
  refine ha H0 Hb0 env σ H Hb ds rl e1 _ fun vs H1 Hb1 g1 h1 => ⟨Hb1, ds, d', b, g1.sub, by rw [List.append_nil]; exact h1, e2, fun v H2 Hb2 g2 h2 => ?_⟩
  cases b with
  | false => exact q v H2 Hb2 (g1.trans g2) h2
  | true =>
    obtain ⟨p, xs, es, rfl, rfl, k1, k2, k3, k4⟩ := h2
    exact q _ H2 (upd Hb2 p (.lst xs)) (g1.trans (g2.absorb k3 k1 k2)) (.lst (.new upd_same) (daAll_mono (Same.upd k2) _ _ k4))
theorem spF_def {E : XK} (ha : SpA K t g) : SpF K (tCall (spD K gd) [] E t) (fDefF gd g) := fun H0 Hb0 env σ H Hb d rl e Q q => by
  unfold fDefF at e
  obtain ⟨ds, e1, e⟩ := Option.bind_eq_some_iff.mp e
  obtain ⟨⟨d', b⟩, e2, e3⟩ := Option.bind_eq_some_iff.mp e
  split at e3
  · rename_i es z
    cases z
    cases e3
    refine ha H0 Hb0 env σ H Hb ds rl e1 _ fun vs H1 Hb1 g1 h1 => ⟨Hb1, ds, _, true, g1.sub, by rw [List.append_nil]; exact h1, e2, fun v H2 Hb2 g2 h2 => ?_⟩
    obtain ⟨p, xs, es', rfl, ee, k1, k2, k3, k4⟩ := h2
    cases ee
    exact q p xs H2 Hb2 (g1.trans g2) (g1.free k3) k1 k2 k4
  · cases e3
theorem jv_def (F : FnOk X.prog X.w X.K X.mg X.base CX0 k f fd ps (spD K gd)) (hr : Room k X.A) (hm : X.mg x = some (.ref f)) (hk : PySem.W.keepIn X.K (.ref f) = true) (hb : L2.Binds X.K fd ps []) (hg : Gl X x)
    (ha : JA X K (e :: es) t g) (hdb : (x == ("__debug__" : Str)) = false := by decide) (he : starEach (e :: es) X.env = (false, eval e X.env) :: starEach es X.env := by rfl) (hpl : (backTo pos (starEach es X.env)).any (·.1) = false := by rfl) :
    JV X K (.Call (.Name x p) (e :: es) [] pos) (tCall (spD K gd) [] E0 t) (fDef gd g) := ⟨pe_call F hr hg hm hk hb .nil pass0 ha.pa hdb he hpl, spV_def ha.sp⟩
theorem jf_def (F : FnOk X.prog X.w X.K X.mg X.base CX0 k f fd ps (spD K gd)) (hr : Room k X.A) (hm : X.mg x = some (.ref f)) (hk : PySem.W.keepIn X.K (.ref f) = true) (hb : L2.Binds X.K fd ps []) (hg : Gl X x)
    (ha : JA X K (e :: es) t g) (hdb : (x == ("__debug__" : Str)) = false := by decide) (he : starEach (e :: es) X.env = (false, eval e X.env) :: starEach es X.env := by rfl) (hpl : (backTo pos (starEach es X.env)).any (·.1) = false := by rfl) :
    JF X K (.Call (.Name x p) (e :: es) [] pos) (tCall (spD K gd) [] E0 t) (fDefF gd g) := ⟨pe_call F hr hg hm hk hb .nil pass0 ha.pa hdb he hpl, spF_def ha.sp⟩
theorem jv_def0 (F : FnOk X.prog X.w X.K X.mg X.base CX0 k f fd ps (spD K gd)) (hr : Room k X.A) (hm : X.mg x = some (.ref f)) (hk : PySem.W.keepIn X.K (.ref f) = true) (hb : L2.Binds X.K fd ps []) (hg : Gl X x)
    (hdb : (x == ("__debug__" : Str)) = false := by decide) : JV X K (.Call (.Name x p) [] [] pos) (tCall (spD K gd) [] E0 tNil) (fDef gd fNil) := ⟨pe_call0 F hr hg hm hk hb .nil pass0 hdb, spV_def (ja_nil (X := X) (K := K)).sp⟩
theorem jf_def0 (F : FnOk X.prog X.w X.K X.mg X.base CX0 k f fd ps (spD K gd)) (hr : Room k X.A) (hm : X.mg x = some (.ref f)) (hk : PySem.W.keepIn X.K (.ref f) = true) (hb : L2.Binds X.K fd ps []) (hg : Gl X x)
    (hdb : (x == ("__debug__" : Str)) = false := by decide) : JF X K (.Call (.Name x p) [] [] pos) (tCall (spD K gd) [] E0 tNil) (fDefF gd fNil) := ⟨pe_call0 F hr hg hm hk hb .nil pass0 hdb, spF_def (ja_nil (X := X) (K := K)).sp⟩
end

/-! ### statements -/
structure PEnds where
  nx : PEnv → Prop
  rt : PyData → Bool → Prop
  bk : PEnv → Prop
  ct : PEnv → Prop
abbrev PTS := PEnds → PEnv → Prop
structure EndsOk (K : PySem.W.Frag) (H0 Hb0 : Hp) (E : PEnds) (D : Ends) : Prop where
  nx : ∀ env σ H Hb, Rel K H0 Hb0 env σ H Hb → E.nx env → D.nx σ H
  rt : ∀ v d b H Hb, Grow H0 Hb0 H Hb → SlotOk K H0 H Hb v d b → E.rt d b → D.rt v H
  bk : ∀ env σ H Hb, Rel K H0 Hb0 env σ H Hb → E.bk env → D.bk σ H
  ct : ∀ env σ H Hb, Rel K H0 Hb0 env σ H Hb → E.ct env → D.ct σ H
def SpS (K : PySem.W.Frag) (t : TS) (T : PTS) : Prop := ∀ H0 Hb0 E D, EndsOk K H0 Hb0 E D → ∀ env σ H Hb, Rel K H0 Hb0 env σ H Hb → T E env → t D σ H
structure JS (X : Cx) (K : PySem.W.Frag) (st : Stmt) (t : TS) (T : PTS) : Prop where
  ps : PS X st t
  sp : SpS K t T
structure JSs (X : Cx) (K : PySem.W.Frag) (st : List Stmt) (t : TS) (T : PTS) : Prop where
  pss : PSs X st t
  sp : SpS K t T
def pNext : PTS := fun E env => E.nx env
def pSeq (T U : PTS) : PTS := fun E env => T { E with nx := U E } env
def pDrop (l : List Nat) (T : PTS) : PTS := fun E env => T E (dropE l env)
def pSetV (i : Nat) (f : PEnv → Option PyData) : PTS := fun E env => ∃ d, f env = some d ∧ E.nx (env.set i (some (d, false)))
def pSetF (i : Nat) (f : PEnv → Option (List PyData)) : PTS := fun E env => ∃ ds, f env = some ds ∧ E.nx (env.set i (some (.list ds, true)))
def pSetG (f : PEnv → Option PyData) (bd : PyData → PEnv → Option PEnv) : PTS := fun E env => ∃ d, f env = some d ∧ ∃ env', bd d env = some env' ∧ E.nx env'
def pPar (i j : Nat) (g : PEnv → Option (List PyData)) : PTS := fun E env => ∃ a b, g env = some [a, b] ∧ E.nx ((env.set i (some (a, false))).set j (some (b, false)))
def pItem (i : Nat) (fk fv : PEnv → Option PyData) : PTS := fun E env => ∃ d ds k j, fv env = some d ∧ env[i]? = some (some (.list ds, true)) ∧ fk env = some (.int k) ∧ ixN ds.length k = some j ∧ E.nx (env.set i (some (.list (ds.set j d), true)))
def pApp (i : Nat) (fv : PEnv → Option PyData) : PTS := fun E env => ∃ d ds, fv env = some d ∧ env[i]? = some (some (.list ds, true)) ∧ ds.length < 1000000 ∧ E.nx (env.set i (some (.list (ds ++ [d]), true)))
def pRetV (f : PEnv → Option PyData) : PTS := fun E env => ∃ d, f env = some d ∧ E.rt d false
def pRetF (f : PEnv → Option (List PyData)) : PTS := fun E env => ∃ ds, f env = some ds ∧ E.rt (.list ds) true
def pRetN (i : Nat) : PTS := fun E env => ∃ d b, env[i]? = some (some (d, b)) ∧ E.rt d b
def pRet0 : PTS := fun E _ => E.rt .none false
def pBreak : PTS := fun E env => E.bk env
def pCont : PTS := fun E env => E.ct env
def pIf (c : PEnv → Option Bool) (T U : PTS) : PTS := fun E env => ∃ b, c env = some b ∧ if b = true then T E env else U E env
def pWhile (c : PEnv → Option Bool) (T : PTS) : PTS := fun E env => ∃ W : Nat → PEnv → Prop, (∃ m, W m env) ∧ ∀ m env, W m env → ∃ b, c env = some b ∧
  if b = true then T { E with nx := fun e => ∃ m', m' < m ∧ W m' e, ct := fun e => ∃ m', m' < m ∧ W m' e, bk := E.nx } env else E.nx env
def pFor (fi : PEnv → Option (List PyData)) (bd : PyData → PEnv → Option PEnv) (T : PTS) : PTS := fun E env => ∃ ds, fi env = some ds ∧ ∃ W : Nat → PEnv → Prop, W 0 env ∧
  (∀ (i : Nat) (d : PyData) (env : PEnv), ds[i]? = some d → W i env → ∃ env', bd d env = some env' ∧ T { E with nx := W (i + 1), ct := W (i + 1), bk := E.nx } env') ∧ (∀ env, W ds.length env → E.nx env)
section
variable {X : Cx} {pos : Pos} {st : Stmt} {rest body : List Stmt} {t u : TS} {T U : PTS} {e : Expr} {te : TE} {f fv fk : PEnv → Option PyData} {g : PEnv → Option (List PyData)}
theorem jss_nil : JSs X K [] tNext pNext := ⟨pss_nil, fun H0 Hb0 E D ok env σ H Hb rl h => ok.nx env σ H Hb rl h⟩
theorem EndsOk.seq {H0 Hb0 : Hp} {E : PEnds} {D : Ends} (ok : EndsOk K H0 Hb0 E D) (h : SpS K u U) : EndsOk K H0 Hb0 { E with nx := U E } { D with nx := u D } := ⟨fun env σ H Hb rl q => h H0 Hb0 E D ok env σ H Hb rl q, ok.rt, ok.bk, ok.ct⟩
theorem jss_cons (h1 : JS X K st t T) (h2 : JSs X K rest u U) : JSs X K (st :: rest) (tSeq t u) (pSeq T U) := ⟨pss_cons h1.ps h2.pss, fun H0 Hb0 E D ok env σ H Hb rl h => h1.sp H0 Hb0 _ _ (ok.seq h2.sp) env σ H Hb rl h⟩
theorem jss_one (h1 : JS X K st t T) : JSs X K [st] t T := ⟨pss_one h1.ps, h1.sp⟩
theorem js_drop (l : List Nat) (h : JS X K st t T) : JS X K st t (pDrop l T) := ⟨h.ps, fun H0 Hb0 E D ok env σ H Hb rl q => by
  obtain ⟨Hb', rl'⟩ := Rel.dropE l rl
  exact h.sp H0 Hb0 E D ok _ σ H Hb' rl' q⟩
theorem js_doc {x : Str} {j : Nat} {pos' : Pos} : JS X K (.Expr (.Constant (.str x) j pos) pos') tNext pNext := ⟨ps_doc, fun H0 Hb0 E D ok env σ H Hb rl h => ok.nx env σ H Hb rl h⟩
theorem js_pass : JS X K (.Pass pos) tNext pNext := ⟨ps_pass, fun H0 Hb0 E D ok env σ H Hb rl h => ok.nx env σ H Hb rl h⟩
theorem js_break : JS X K (.Break pos) tBreak pBreak := ⟨ps_break, fun H0 Hb0 E D ok env σ H Hb rl h => ok.bk env σ H Hb rl h⟩
theorem js_cont : JS X K (.Continue pos) tCont pCont := ⟨ps_continue, fun H0 Hb0 E D ok env σ H Hb rl h => ok.ct env σ H Hb rl h⟩
theorem spS_setV {i : Nat} (h : SpV K te f) : SpS K (tAsg te (gName i)) (pSetV i f) := fun H0 Hb0 E D ok env σ H Hb rl ⟨d, e1, q⟩ =>
  h H0 Hb0 env σ H Hb d rl e1 _ fun v H1 Hb1 g1 h1 => ok.nx _ _ H1 Hb1 ((rl.grow g1).setV i h1) q
theorem spS_setF {i : Nat} (h : SpF K te g) : SpS K (tAsg te (gName i)) (pSetF i g) := fun H0 Hb0 E D ok env σ H Hb rl ⟨ds, e1, q⟩ =>
  h H0 Hb0 env σ H Hb ds rl e1 _ fun p xs H1 Hb1 g1 h0 h1 h2 h3 => ok.nx _ _ H1 Hb1 ((rl.grow g1).set i (b := true) ⟨p, xs, ds, rfl, rfl, h1, h2, rl.gr.free h0, h3⟩ fun _ j dj ne ej sj => by
    obtain ⟨w, w1, p', xs', ds', rfl, _, k1, _⟩ := rl.slot j dj true ej
    rw [w1] at sj
    cases sj
    rw [h0] at k1
    cases k1) q
theorem js_setV {x : Str} {pos' : Pos} (i : Nat) (hN : X.N.Nodup) (h : JV X K e te f) (hi : X.N[i]? = some x := by rfl) (hx : Loc X.env.scope x := by first | exact Or.inl rfl | exact Or.inr rfl) (hs : swapsWith e (some (.Name x pos')) pos.line X.env = pure false := by rfl)
    (hf : X.fn x = true ∨ X.env.scope.names.lookup x = some .local := by first | exact .inl rfl | exact .inr rfl) : JS X K (.Assign [.Name x pos'] e pos) (tAsg te (gName i)) (pSetV i f) := ⟨ps_set hN hi hx h.pe hs hf, spS_setV h.sp⟩
theorem js_setF {x : Str} {pos' : Pos} (i : Nat) (hN : X.N.Nodup) (h : JF X K e te g) (hi : X.N[i]? = some x := by rfl) (hx : Loc X.env.scope x := by first | exact Or.inl rfl | exact Or.inr rfl) (hs : swapsWith e (some (.Name x pos')) pos.line X.env = pure false := by rfl)
    (hf : X.fn x = true ∨ X.env.scope.names.lookup x = some .local := by first | exact .inl rfl | exact .inr rfl) : JS X K (.Assign [.Name x pos'] e pos) (tAsg te (gName i)) (pSetF i g) := ⟨ps_set hN hi hx h.pe hs hf, spS_setF h.sp⟩
theorem js_setG {tg : Expr} {gg : TG} {bd : PyData → PEnv → Option PEnv} {is : List Nat} (h : JV X K e te f) (hg : JG X K tg gg bd is) (hs : swapsWithSole [tg] e pos.line X.env = pure false := by rfl) (hw : swappedStores [tg] e X.env = pure none := by rfl)
    (h1 : (assignEach [tg] X.env).map (·.2) = [assign tg X.env] := by rfl) : JS X K (.Assign [tg] e pos) (tAsg te gg) (pSetG f bd) := ⟨ps_asg h.pe hg.pg hs hw h1, fun H0 Hb0 E D ok env σ H Hb rl ⟨d, e1, env', e2, q⟩ =>
  h.sp H0 Hb0 env σ H Hb d rl e1 _ fun v H1 Hb1 g1 hd => hg.sp H0 Hb0 env σ H1 Hb1 v d env' (rl.grow g1) hd e2 _ fun σ' rl' _ => ok.nx _ _ H1 Hb1 rl' q⟩
/-- name = [..] -/
theorem js_setLc {i : Nat} {y : Str} {py : Pos} {elt tg iter : Expr} {ifs : List Expr} {scope : Scope} {own : List (Str × Nat)} {spos : Pos} {wi : TI} {gg : TG} {tt : TT} {te : TE} {fi : PEnv → Option (List PyData)} {bd : PyData → PEnv → Option PEnv} {ft : PEnv → Option Bool} {fe : PEnv → Option PyData} {is : List Nat}
    (hc : X.calm = true) (hN : X.N.Nodup) (hy : X.N[i]? = some y) (hyl : X.env.scope.names.lookup y = some .local)
    (hsw : swapsWith (.ListComp elt [⟨tg, iter, ifs, 0⟩] scope pos) (some (.Name y py)) spos.line X.env = pure true) (hi : JI X K tg iter wi fi) (ok : BlkOk X.N X.env.scope scope own)
    (hg : ∀ (s : Shared) (H : Hp) (C : Addr) (cl : List (Str × Addr)) (fp : List Addr), JG (X.blk s H scope (compEnvC scope cl C X.env) fp) K tg gg bd is)
    (ht : ∀ (s : Shared) (H : Hp) (C : Addr) (cl : List (Str × Addr)) (fp : List Addr), JTs (X.blk s H scope (compEnvC scope cl C X.env) fp) K ifs tt ft)
    (he : ∀ (s : Shared) (H : Hp) (C : Addr) (cl : List (Str × Addr)) (fp : List Addr), JV (X.blk s H scope (compEnvC scope cl C X.env) fp) K elt te fe)
    (hs : ∀ x, foldedSetIterable iter X.env x = pure x := by intro _; rfl) (hv : ∀ i ∈ is, i ∈ own.map (·.2) := by decide) :
    JS X K (.Assign [.Name y py] (.ListComp elt [⟨tg, iter, ifs, 0⟩] scope pos) spos) (tAsg (tLc wi gg tt te (own.map (·.2))) (gName i)) (pSetF i (fComp (own.map (·.2)) fi bd ft fe)) :=
  ⟨ps_setLc hc hN hy hyl hsw hi.pi ok (fun s H C cl fp => (hg s H C cl fp).pg) (fun s H C cl fp => (ht s H C cl fp).pts) (fun s H C cl fp => (he s H C cl fp).pe) hs,
    spS_setF (spF_comp hi.sp (hg X.s_0 X.H_0 0 [] []).sp (ht X.s_0 X.H_0 0 [] []).sp (he X.s_0 X.H_0 0 [] []).sp hv)⟩
theorem js_par {i j : Nat} {x y : Str} {a b : Expr} {ta : TA} {px py pt : Pos} {kt k2 : Nat} {pt2 : Pos} (hc : X.calm = true) (hN : X.N.Nodup) (hi : X.N[i]? = some x) (hj : X.N[j]? = some y) (hij : i ≠ j)
    (hx : X.env.scope.names.lookup x = some .local) (hy : X.env.scope.names.lookup y = some .local) (ha : JA X K [a, b] ta g)
    (hw : swappedStores [.Tuple [.Name x px, .Name y py] kt pt] (.Tuple [a, b] k2 pt2) X.env = pure (some [x, y]))
    (hs : swapsWithSole [.Tuple [.Name x px, .Name y py] kt pt] (.Tuple [a, b] k2 pt2) pos.line X.env = pure false := by rfl) :
    JS X K (.Assign [.Tuple [.Name x px, .Name y py] kt pt] (.Tuple [a, b] k2 pt2) pos) (tPar i j ta) (pPar i j g) := ⟨ps_par hc hN hi hj hij hx hy ha.pa hw hs, fun H0 Hb0 E D ok env σ H Hb rl ⟨d1, d2, e1, q⟩ =>
  ha.sp H0 Hb0 env σ H Hb _ rl e1 _ fun vs H1 Hb1 g1 h1 => by
    obtain ⟨v, w, rfl, hv, hw⟩ := da2 h1
    exact ⟨v, w, rfl, ok.nx _ _ H1 Hb1 (((rl.grow g1).setV i hv).setV j hw) q⟩⟩
theorem Rel.put {H0 Hb0 H Hb : Hp} {env : PEnv} {σ : L2.St} {i : Nat} {ds es : List PyData} {p : Addr} {xs ys : List V} (rl : Rel K H0 Hb0 env σ H Hb) (hi : env[i]? = some (some (.list ds, true))) (hs : σ[i]? = some (some (.ref p))) (h : H p = some (.lst xs)) (hb : Hb p = none) (h0 : H0 p = none)
    (hd : DaAll K Hb ys es) : Rel K H0 Hb0 (env.set i (some (.list es, true))) σ (upd H p (.lst ys)) Hb where
  len := by rw [List.length_set]; exact rl.len
  gr := rl.gr.poke h0 hb
  slot := fun j d' b' e => by
    rcases get_set e with ⟨rfl, e'⟩ | ⟨ne, e'⟩
    · cases e'
      exact ⟨_, hs, p, ys, es, rfl, rfl, upd_same, hb, h0, hd⟩
    · obtain ⟨w, h1, h2⟩ := rl.slot j d' b' e'
      refine ⟨w, h1, ?_⟩
      cases b' with
      | false => exact h2
      | true =>
        obtain ⟨p', xs', ds', rfl, rfl, k1, k2, k3, k4⟩ := h2
        have np : p' ≠ p := fun z => by
          subst z
          exact rl.dist i j _ _ _ ne hi e' hs h1
        exact ⟨p', xs', ds', rfl, rfl, by rw [upd_ne np]; exact k1, k2, k3, k4⟩
  dist := fun j k dj dk w ne ej ek sj sk => by
    have hj : ∃ d, env[j]? = some (some (d, true)) := by
      rcases get_set ej with ⟨rfl, _⟩ | ⟨_, z⟩
      · exact ⟨_, hi⟩
      · exact ⟨_, z⟩
    have hk : ∃ d, env[k]? = some (some (d, true)) := by
      rcases get_set ek with ⟨rfl, _⟩ | ⟨_, z⟩
      · exact ⟨_, hi⟩
      · exact ⟨_, z⟩
    obtain ⟨d1, q1⟩ := hj
    obtain ⟨d2, q2⟩ := hk
    exact rl.dist j k d1 d2 w ne q1 q2 sj sk
/-- x[k] = e, x a name whose list is its own -/
theorem js_item {o i : Expr} {ti : TE} {p1 : Pos} {fo : PEnv → Option PyData} (n : Nat) (ho : JR X K o (tVar n) fo) (hi : JV X K i ti fk) (he : JV X K e te fv)
    (hs : swapsWithSole [Expr.Subscript o i p1] e pos.line X.env = pure false := by rfl) (hw : swappedStores [Expr.Subscript o i p1] e X.env = pure none := by rfl)
    (h1 : (assignEach [Expr.Subscript o i p1] X.env).map (·.2) = [assign (Expr.Subscript o i p1) X.env] := by rfl)
    (ha : ∀ v, assign (.Subscript o i p1) X.env v = (do
      let ov ← holding [v] (eval o X.env)
      let iv ← holding [v, ov] (eval i X.env)
      standAt p1
      holding [v, ov, iv] (setItem ov iv v)
      release [v, ov, iv] []) := by intro _; rfl) : JS X K (.Assign [.Subscript o i p1] e pos) (tAsg te (gSub (tVar n) ti rSetL)) (pItem n fk fv) := by
  refine ⟨ps_asg he.pe (pg_sub ho.pe hi.pe set_list ha) hs hw h1, fun H0 Hb0 E D ok env σ H Hb rl ⟨d, ds, k, j, e1, e2, e3, e4, q⟩ => ?_⟩
  refine he.sp H0 Hb0 env σ H Hb d rl e1 _ fun v H1 Hb1 g1 hv => ?_
  have rl1 := rl.grow g1
  obtain ⟨w, hw1, p, xs, ds', rfl, eds, k1, k2, k3, k4⟩ := rl1.slot n _ true e2
  cases eds
  refine ⟨_, hw1, ?_⟩
  refine hi.sp H0 Hb0 env σ H1 Hb1 _ rl1 e3 _ fun iv H2 Hb2 g2 hiv => ?_
  cases hiv
  have rl2 := rl1.grow g2
  refine ⟨p, xs, k, j, rfl, rfl, g2.ex _ _ k1, by rw [daAll_len k4]; exact e4, ?_⟩
  exact ok.nx _ σ _ Hb2 (rl2.put e2 hw1 (g2.ex _ _ k1) (g2.keep k1 k2) k3 (daAll_set (da_mono g2.exb _ _ hv) j (daAll_mono g2.exb _ _ k4))) q
/-- x.append(e), x a name whose list is its own -/
theorem js_app {o : Expr} {apos cpos : Pos} {fo : PEnv → Option PyData} (n : Nat) (ho : JR X K o (tVar n) fo) (he : JV X K e te fv)
    (hpe : PE X (.Call (.Attribute o "append" apos) [e] [] cpos) (tBM K "list" rAppend (tVar n) (tCons te tNil)))
    (hs : swapsWith (.Call (.Attribute o "append" apos) [e] [] cpos) none pos.line X.env = pure false := by rfl) :
    JS X K (.Expr (.Call (.Attribute o "append" apos) [e] [] cpos) pos) (tDrop (tBM K "list" rAppend (tVar n) (tCons te tNil))) (pApp n fv) := by
  refine ⟨ps_expr hpe hs, fun H0 Hb0 E D ok env σ H Hb rl ⟨d, ds, e1, e2, hl, q⟩ => ?_⟩
  obtain ⟨w, hw1, p, xs, ds', rfl, eds, k1, k2, k3, k4⟩ := rl.slot n _ true e2
  cases eds
  refine ⟨_, hw1, .inl ⟨rfl, _, .inl (.inl k1)⟩, ?_⟩
  refine he.sp H0 Hb0 env σ H Hb d rl e1 _ fun v H1 Hb1 g1 hv => ?_
  refine ⟨p, xs, v, rfl, rfl, g1.ex _ _ k1, ?_, ?_⟩
  · rw [daAll_len k4, line24_eq]
    show ds.length < 16777216
    omega
  · exact ok.nx _ σ _ Hb1 ((rl.grow g1).put e2 hw1 (g1.ex _ _ k1) (g1.keep k1 k2) k3 (daAll_append (daAll_mono g1.exb _ _ k4) (.cons hv .nil))) q
theorem js_retV (h : JV X K e te f) : JS X K (.Return (some e) pos) (tRet te) (pRetV f) := ⟨ps_ret h.pe, fun H0 Hb0 E D ok env σ H Hb rl ⟨d, e1, q⟩ =>
  h.sp H0 Hb0 env σ H Hb d rl e1 _ fun v H1 Hb1 g1 hv => ok.rt v d false H1 Hb1 (rl.gr.trans g1) hv q⟩
theorem js_retF (h : JF X K e te g) : JS X K (.Return (some e) pos) (tRet te) (pRetF g) := ⟨ps_ret h.pe, fun H0 Hb0 E D ok env σ H Hb rl ⟨d, e1, q⟩ =>
  h.sp H0 Hb0 env σ H Hb d rl e1 _ fun p xs H1 Hb1 g1 h0 h1 h2 h3 => ok.rt _ _ true H1 Hb1 (rl.gr.trans g1) ⟨p, xs, d, rfl, rfl, h1, h2, rl.gr.free h0, h3⟩ q⟩
theorem js_retN {o : Expr} {fo : PEnv → Option PyData} {n : Nat} (h : JR X K o (tVar n) fo) : JS X K (.Return (some o) pos) (tRet (tVar n)) (pRetN n) := ⟨ps_ret h.pe, fun H0 Hb0 E D ok env σ H Hb rl ⟨d, b, e1, q⟩ => by
  obtain ⟨w, hw1, h2⟩ := rl.slot n d b e1
  exact ⟨w, hw1, ok.rt w d b H Hb rl.gr h2 q⟩⟩
theorem js_ret0 : JS X K (.Return none pos) tRetN pRet0 := ⟨ps_retN, fun H0 Hb0 E D ok env σ H Hb rl q => ok.rt .non .none false H Hb rl.gr .non q⟩
theorem js_if {c : Expr} {tc : TT} {fc : PEnv → Option Bool} (hc : JT X K c tc fc) (h1 : JSs X K body t T) (h2 : JSs X K rest u U) : JS X K (.If c body rest pos) (tIfS tc t u) (pIf fc T U) := ⟨ps_if hc.pt h1.pss h2.pss, fun H0 Hb0 E D ok env σ H Hb rl ⟨b, e1, q⟩ =>
  hc.sp H0 Hb0 env σ H Hb b rl e1 _ fun H1 Hb1 g1 => by
    cases b with
    | true =>
      rw [if_pos rfl] at q ⊢
      exact h1.sp H0 Hb0 E D ok env σ H1 Hb1 (rl.grow g1) q
    | false =>
      rw [if_neg Bool.false_ne_true] at q ⊢
      exact h2.sp H0 Hb0 E D ok env σ H1 Hb1 (rl.grow g1) q⟩
theorem js_while {c : Expr} {tc : TT} {fc : PEnv → Option Bool} (hc : JT X K c tc fc) (h1 : JSs X K body t T) (hp : PassesOwn (model X.prog X.w) X.A X.env X.xe := by exact PassesOwn.never) : JS X K (.While c body [] pos) (tWhile tc t) (pWhile fc T) := ⟨ps_while hp hc.pt h1.pss, fun H0 Hb0 E D ok env σ H Hb rl ⟨W, ⟨m0, w0⟩, turn⟩ => by
  refine ⟨fun m σ H => ∃ env Hb, Rel K H0 Hb0 env σ H Hb ∧ W m env, ⟨m0, env, Hb, rl, w0⟩, fun m σ1 H1 ⟨env1, Hb1, rl1, w1⟩ => ?_⟩
  obtain ⟨b, e1, q⟩ := turn m env1 w1
  refine hc.sp H0 Hb0 env1 σ1 H1 Hb1 b rl1 e1 _ fun H2 Hb2 g2 => ?_
  cases b with
  | true =>
    rw [if_pos rfl] at q ⊢
    refine ⟨fun σ' H' => ∃ m', m' < m ∧ ∃ env Hb, Rel K H0 Hb0 env σ' H' Hb ∧ W m' env, fun σ' H' h => h, ?_⟩
    exact h1.sp H0 Hb0 { E with nx := fun e => ∃ m', m' < m ∧ W m' e, ct := fun e => ∃ m', m' < m ∧ W m' e, bk := E.nx } { D with nx := fun σ' H' => ∃ m', m' < m ∧ ∃ env Hb, Rel K H0 Hb0 env σ' H' Hb ∧ W m' env, ct := fun σ' H' => ∃ m', m' < m ∧ ∃ env Hb, Rel K H0 Hb0 env σ' H' Hb ∧ W m' env, bk := D.nx }
      ⟨fun env σ H Hb rl ⟨m', h, w⟩ => ⟨m', h, env, Hb, rl, w⟩, ok.rt, ok.nx, fun env σ H Hb rl ⟨m', h, w⟩ => ⟨m', h, env, Hb, rl, w⟩⟩ env1 σ1 H2 Hb2 (rl1.grow g2) q
  | false =>
    rw [if_neg Bool.false_ne_true] at q ⊢
    exact ok.nx _ _ _ _ (rl1.grow g2) q⟩
theorem Grow.over {H0 Hb0 H1 Hb1 H Hb : Hp} (a : Grow H0 Hb0 H1 Hb1) (b : Grow H0 Hb1 H Hb) : Grow H0 Hb0 H Hb := ⟨b.ex, a.exb.trans b.exb, b.sub, fun x o e => by
  rcases b.new x o e with h | h
  · exact a.new x o h
  · exact .inr h⟩
theorem Rel.rebase {H0 Hb0 H Hb : Hp} {env : PEnv} {σ : L2.St} (r : Rel K H0 Hb0 env σ H Hb) : Rel K H0 Hb env σ H Hb := ⟨r.len, ⟨r.gr.ex, Same.refl _, r.gr.sub, fun _ _ e => .inl e⟩, r.slot, r.dist⟩
theorem Rel.unbase {H0 Hb0 H1 Hb1 H Hb : Hp} {env : PEnv} {σ : L2.St} (a : Grow H0 Hb0 H1 Hb1) (r : Rel K H0 Hb1 env σ H Hb) : Rel K H0 Hb0 env σ H Hb := ⟨r.len, a.over r.gr, r.slot, r.dist⟩
theorem js_for {tg iter : Expr} {wi : TI} {gg : TG} {fi : PEnv → Option (List PyData)} {bd : PyData → PEnv → Option PEnv} {is : List Nat} (hc : X.calm = true) (hi : JI X K tg iter wi fi) (hg : JG X K tg gg bd is) (h1 : JSs X K body t T)
    (hp : PassesOwn (model X.prog X.w) X.A X.env X.xe := by exact PassesOwn.never) (hs : ∀ x, foldedSetIterable iter X.env x = pure x := by intro _; rfl) : JS X K (.For tg iter body [] pos) (tFor wi gg t) (pFor fi bd T) := ⟨ps_for hp hc hi.pi hg.pg h1.pss hs, fun H0 Hb0 E D ok env σ H Hb rl ⟨ds, e1, W, w0, turn, fin⟩ => by
  refine hi.sp H0 Hb0 env σ H Hb ds rl e1 _ fun J H1 Hb1 g1 hJ => ?_
  have rl1 := rl.grow g1
  refine ⟨fun i m σ H => m = ds.length - i ∧ i ≤ ds.length ∧ ∃ env Hb, Rel K H0 Hb1 env σ H Hb ∧ W i env, ⟨ds.length, by omega, Nat.zero_le _, env, Hb1, rl1.rebase, w0⟩, fun i m σ2 H2 ⟨hm, hi2, env2, Hb2, rl2, w2⟩ => ?_⟩
  have hJi := hJ i H2 Hb2 rl2.gr.exb rl2.gr.sub
  by_cases hlt : i < ds.length
  · have hd : ds[i]? = some ds[i] := List.getElem?_eq_getElem hlt
    obtain ⟨go, yld⟩ := hJi.1 _ hd
    obtain ⟨env3, e3, q3⟩ := turn i _ env2 hd w2
    refine .inr ⟨go, fun σ' H' => ∃ env Hb, Rel K H0 Hb1 env σ' H' Hb ∧ W (i + 1) env, fun σ' H' h => ⟨ds.length - (i + 1), by omega, rfl, hlt, h⟩, fun x H3 hy => ?_⟩
    obtain ⟨Hb3, g3, hx⟩ := yld x H3 hy
    refine hg.sp H0 Hb1 env2 σ2 H3 Hb3 x _ env3 (rl2.grow g3) hx e3 _ fun σ4 rl4 _ => ?_
    exact h1.sp H0 Hb1 { E with nx := W (i + 1), ct := W (i + 1), bk := E.nx } { D with nx := fun σ' H' => ∃ env Hb, Rel K H0 Hb1 env σ' H' Hb ∧ W (i + 1) env, ct := fun σ' H' => ∃ env Hb, Rel K H0 Hb1 env σ' H' Hb ∧ W (i + 1) env, bk := D.nx } ⟨fun env σ H Hb rl w => ⟨env, Hb, rl, w⟩, fun v d b H Hb g => ok.rt v d b H Hb (rl1.gr.over g), fun env σ H Hb rl => ok.nx env σ H Hb (rl.unbase rl1.gr), fun env σ H Hb rl w => ⟨env, Hb, rl, w⟩⟩ env3 σ4 H3 Hb3 rl4 q3
  · have hle : ds.length ≤ i := Nat.le_of_not_lt hlt
    have ei : i = ds.length := by omega
    subst ei
    exact .inl ⟨hJi.2 (Nat.le_refl _), ok.nx _ _ _ _ (rl2.unbase rl1.gr) (fin env2 w2)⟩⟩
end

/-! ### the rule for a def -/
def startE (n : Nat) (ds : List PyData) : PEnv := ds.map (fun d => some (d, false)) ++ List.replicate (n - ds.length) none
theorem rel_start {H Hb : Hp} {N : List Str} {vs : List V} {ds : List PyData} (g : Same Hb H) (h : DaAll K Hb vs ds) : Rel K H Hb (startE N.length ds) (L2.start N vs) H Hb where
  len := by
    unfold startE L2.start
    rw [List.length_append, List.length_append, List.length_map, List.length_map, List.length_replicate, List.length_replicate, daAll_len h]
  gr := Grow.refl g
  slot := fun i d b e => by
    unfold startE at e
    rw [List.getElem?_append] at e
    split at e
    · rename_i hl
      rw [List.getElem?_map] at e
      obtain ⟨d', h1, h2⟩ := Option.map_eq_some_iff.mp e
      cases h2
      obtain ⟨v, h3, h4⟩ := daAll_get h i _ h1
      refine ⟨v, ?_, h4⟩
      unfold L2.start
      rw [List.getElem?_append_left (by rw [List.length_map, daAll_len h]; rw [List.length_map] at hl; exact hl), List.getElem?_map, h3]
      rfl
    · rw [List.getElem?_replicate] at e
      split at e <;> cases e
  dist := fun i j di dj v ne ei => by
    unfold startE at ei
    rw [List.getElem?_append] at ei
    split at ei
    · rw [List.getElem?_map] at ei
      obtain ⟨d', h1, h2⟩ := Option.map_eq_some_iff.mp ei
      cases h2
    · rw [List.getElem?_replicate] at ei
      split at ei <;> cases ei
section
variable {P : Program} {w : World} {K : PySem.W.Frag} {mg : Str → Option Value} {base : Heap}
theorem fn_ok {x qual : Str} {st : Stmt} {f : Addr} {fd : FuncData} {N ps : List Str} {k : Nat} {gd : List PyData → Option (PyData × Bool)} {t : TS} {T : PTS} (F : Fun K x qual st f fd) (S : FnScope N ps (defScope st))
    (hlen : ∀ ds r, gd ds = some r → ds.length = ps.length)
    (hb : ∀ (cdv : Value) (A : Around) (outer : List Env) (s : Shared) (H : Hp) (E : XK), Room k (A.deeper (envOfC qual (defScope st) s.heap.objs.size f cdv)) → JSs (cxOf CX0 P w K mg base N qual (defScope st) f cdv A outer s H E).nox K (defBody st) t T)
    (hT : ∀ ds d b, gd ds = some (d, b) → T ⟨fun _ => d = .none ∧ b = false, fun d' b' => d' = d ∧ b' = b, fun _ => False, fun _ => False⟩ (startE N.length ds)) : FnOk P w K mg base CX0 (k + 1) f fd ps (spD K gd) := by
  refine F.ok S (fun vs H Q E h => ?_) (fun cdv A outer s H vs Q E hr h => ?_)
  · obtain ⟨Hb, ds, d, b, _, h2, h3, _⟩ := h
    rw [daAll_len h2]
    exact hlen ds _ h3
  · obtain ⟨Hb, ds, d, b, h1, h2, h3, q⟩ := h
    refine ⟨t, (hb cdv A outer s H E hr).pss, ?_⟩
    refine (hb cdv A outer s H E hr).sp H Hb ⟨fun _ => d = .none ∧ b = false, fun d' b' => d' = d ∧ b' = b, fun _ => False, fun _ => False⟩ { nx := fun _ H' => Q .non H', rt := Q } ⟨?_, ?_, fun _ _ _ _ _ h => h.elim, fun _ _ _ _ _ h => h.elim⟩ _ _ H Hb (rel_start h1 h2) (hT ds d b h3)
    · rintro env σ H' Hb' rl ⟨rfl, rfl⟩
      exact q .non H' Hb' rl.gr .non
    · rintro v d' b' H' Hb' g hs ⟨rfl, rfl⟩
      exact q v H' Hb' g hs
end
end PD

set_option Elab.async false
set_option linter.all false
set_option maxRecDepth 100000
set_option maxHeartbeats 4000000
set_option autoImplicit false
namespace PD
open PySem PySem.Spec L2
open PyProof.Rows hiding St
variable {K : PySem.W.Frag}

/-! ### defs that are run where no repr is under way -/
structure FnOkG (P : Program) (w : World) (K : PySem.W.Frag) (mg : Str → Option Value) (base : Heap) (CX : CXT) (k : Nat) (f : Addr) (fd : FuncData) (ps : List Str) (sp : Sp) : Prop where
  len : ∀ vs H Q E, sp vs H Q E → vs.length = ps.length
  run : ∀ (A : Around) (outer : List Env) (s : Shared) (H : Hp) (args : Args) (us : List Value) (vs : List V) (Q : VK) (E : XK), Room k A → A.guards = some [] → Env0 P w K mg base A outer s H → BindsTo s fd args (ps.zip us) → Vals vs us → sp vs H Q E →
    codeAny (model P w) A (.call (.ref f) args) (CR CX outer P w H s Q E) s
theorem FnOkG.of {P : Program} {w : World} {mg : Str → Option Value} {base : Heap} {CX : CXT} {k : Nat} {f : Addr} {fd : FuncData} {ps : List Str} {sp : Sp} (F : FnOk P w K mg base CX k f fd ps sp) : FnOkG P w K mg base CX k f fd ps sp :=
  ⟨F.len, fun A outer s H args us vs Q E hr _ => F.run A outer s H args us vs Q E hr⟩
section
variable {X : Cx} {CX : CXT} {k : Nat} {f C : Addr} {fd : FuncData} {ps : List Str} {sp : Sp} {dvs : List V} {ds : List Value} {E : XK} {x m : Str} {p pos apos : Pos} {e o : Expr} {es : List Expr} {ta : TE} {t : TA}
theorem run_fnG {pins : List (Addr × Obj)} {σ : L2.St} {H : Hp} {s : Shared} {Q : VK} {us : List Value} {vs : List V} (F : FnOkG X.prog X.w X.K X.mg X.base CX k f fd ps sp) (hr : Room k X.A) (hG : X.A.guards = some []) (hb : L2.Binds X.K fd ps ds) (hd : Vals dvs ds) (hx : Passes CX X E)
    (I : Inv X pins σ H s) (r : Vals vs us) (h : sp (vs ++ dvs) H Q E) : wpAny (model X.prog X.w) X.A (call (.ref f) us) (EP X pins σ Q) X.xe s := by
  have r2 : Vals (vs ++ dvs) (us ++ ds) := r.append hd
  have hl : (us ++ ds).length = ps.length := by rw [← r2.length]; exact F.len _ _ _ _ h
  refine wpAny_call (codeAny_mono (F.run X.A X.stack s H ⟨us, []⟩ (us ++ ds) (vs ++ dvs) Q E hr hG I.env0 (hb s us I.kIn hl) r2 h) fun r s' hq => ?_)
  cases r with
  | error e => exact hx pins σ H s e s' I hq
  | ok fl =>
    cases fl with
    | ret u => exact I.after hq
    | next => exact False.elim hq
    | brk => exact False.elim hq
    | cont => exact False.elim hq
theorem pe_callG (F : FnOkG X.prog X.w X.K X.mg X.base CX k f fd ps sp) (hr : Room k X.A) (hG : X.A.guards = some []) (hg : Gl X x) (hm : X.mg x = some (.ref f)) (hk : PySem.W.keepIn X.K (.ref f) = true) (hb : L2.Binds X.K fd ps ds) (hd : Vals dvs ds) (hx : Passes CX X E)
    (ha : PA X (e :: es) t) (hdb : (x == ("__debug__" : Str)) = false := by decide) (he : starEach (e :: es) X.env = (false, eval e X.env) :: starEach es X.env := by rfl) (hpl : (backTo pos (starEach es X.env)).any (·.1) = false := by rfl) :
    PE X (.Call (.Name x p) (e :: es) [] pos) (tCall sp dvs E t) := by
  refine ⟨fun pins s σ H Q I h => ?_⟩
  refine wpAny_Call_Name_kw (ld_glob I hg hm ?_ hdb)
  refine PySem.W.callWith_K (h₀ := X.base) I.ok.mod.kin hk (thn (ha.run pos pins s σ H _ I h) fun us s1 ⟨vs, H1, I1, r, q⟩ => ⟨I1.kIn, ?_⟩) he hpl
  exact run_fnG F hr hG hb hd hx I1 r q
end
theorem fn_ofG {CX : CXT} {P : Program} {w : World} {mg : Str → Option Value} {base : Heap} {k : Nat} {f : Addr} {name qual : Str} {params : Arguments} {body : List Stmt} {scope : Scope} {dV kV doc pm cdv ct oc : Value} {an od : Option Addr}
    {osl : Array (Option Value)} {N ps : List Str} {sp : Sp} (lk : K.lookup f = some ⟨oc, od, .func (PySem.W.fnOf name qual params body scope dV kV doc pm an cdv ct), osl⟩) (hcd : PySem.W.codeIn K cdv qual = true) (S : FnScope N ps scope)
    (len : ∀ vs H Q E, sp vs H Q E → vs.length = ps.length)
    (hbody : ∀ (A : Around) (outer : List Env) (s : Shared) (H : Hp) (vs : List V) (Q : VK) (E : XK), Room k (A.deeper (envOfC qual scope s.heap.objs.size f cdv)) → A.guards = some [] → sp vs H Q E →
      ∃ t, PSs (cxOf CX P w K mg base N qual scope f cdv A outer s H E) body t ∧ t { nx := fun _ H' => Q .non H', rt := Q } (L2.start N vs) H) :
    FnOkG P w K mg base CX (k + 1) f (PySem.W.fnOf name qual params body scope dV kV doc pm an cdv ct) ps sp := by
  refine ⟨len, fun A outer s H args us vs Q E hr hG e0 hb r hsp => ?_⟩
  have hl := len _ _ _ _ hsp
  have KX : K.In s.heap := e0.mod.kin.keeps fun b o e => (e0.bs b o e).1
  have lim : s.heap.NoLimit := e0.mod.nolimit.keeps fun b o e => (e0.bs b o e).1
  have hkind : ∀ y ∈ ps.zip us, scope.names.lookup y.1 = some .local ∨ (scope.names.lookup y.1 = some .cell ∧ ((cellsFrom (s.heap.objs.size + 1) scope.names []).lookup y.1).isSome = true) := fun ⟨n, v⟩ hy => by
    rcases S.par n (List.of_mem_zip hy).1 with q | q
    · exact .inl q
    · exact .inr ⟨q, PySem.W.cellsFrom_some _ _ _ (.inl q)⟩
  refine codeAny_call_function hr.depth (KX _ _ lk) rfl S.co S.gen rfl (PySem.W.codeRec_of KX hcd) (hb _ _ _ _ ?_)
  refine wpAny_newFunctionEnv_cells S.kind hkind fun env he s1 x => ?_
  subst he
  refine ⟨lim.keeps x.toInCall.keep, codeAny_func ?_⟩
  obtain ⟨t, ht, hq⟩ := hbody A outer s H vs Q E (hr.deeper _) hG hsp
  have I : Inv (cxOf CX P w K mg base N qual scope f cdv A outer s H E) [] (L2.start N vs) H s1 := inv_start S hr.hd e0 hl r x
  refine wpAny_mono (ht.run [] s1 (L2.start N vs) H _ I hq) (fun fl s' hs => ?_) fun e s' hs => hs
  have fin : ∀ {σ' : L2.St} {H' : Hp} {v : V} {u : Value}, Inv (cxOf CX P w K mg base N qual scope f cdv A outer s H E) [] σ' H' s' → RelV v u → Q v H' → CE outer P w H s Q u s' :=
    fun {σ' H' v u} J rv q => ⟨v, H', J.os, J.bare, J.base, J.hok, rv, q⟩
  cases fl with
  | ret u =>
    obtain ⟨v, σ', H', J, rv, q⟩ := hs
    exact fin J rv q
  | next =>
    obtain ⟨σ', H', J, q⟩ := hs
    exact fin (v := V.non) (u := Value.none) J rfl q
  | brk =>
    obtain ⟨_, _, _, q⟩ := hs
    exact False.elim q
  | cont =>
    obtain ⟨_, _, _, q⟩ := hs
    exact False.elim q
section
variable {P : Program} {w : World} {mg : Str → Option Value} {base : Heap}
theorem Fun.okG {x qual : Str} {st : Stmt} {f : Addr} {fd : FuncData} {N ps : List Str} {k : Nat} {sp : Sp} (F : Fun K x qual st f fd) (S : FnScope N ps (defScope st)) (len : ∀ vs H Q E, sp vs H Q E → vs.length = ps.length)
    (hbody : ∀ (cdv : Value) (A : Around) (outer : List Env) (s : Shared) (H : Hp) (vs : List V) (Q : VK) (E : XK), Room k (A.deeper (envOfC qual (defScope st) s.heap.objs.size f cdv)) → A.guards = some [] → sp vs H Q E →
      ∃ t, PSs (cxOf CX0 P w K mg base N qual (defScope st) f cdv A outer s H E).nox (defBody st) t ∧ t { nx := fun _ H' => Q .non H', rt := Q } (L2.start N vs) H) : FnOkG P w K mg base CX0 (k + 1) f fd ps sp := by
  obtain ⟨oc, od, kV, doc, pm, an, cdv, ct, osl, rfl, lk, hcd⟩ := F.ex
  refine fn_ofG lk hcd S len fun A outer s H vs Q E hr hG hsp => ?_
  obtain ⟨t, h, q⟩ := hbody cdv A outer s H vs Q E hr hG hsp
  exact ⟨t, h.nox, q⟩
theorem fn_okG {x qual : Str} {st : Stmt} {f : Addr} {fd : FuncData} {N ps : List Str} {k : Nat} {gd : List PyData → Option (PyData × Bool)} {t : TS} {T : PTS} (F : Fun K x qual st f fd) (S : FnScope N ps (defScope st))
    (hlen : ∀ ds r, gd ds = some r → ds.length = ps.length)
    (hb : ∀ (cdv : Value) (A : Around) (outer : List Env) (s : Shared) (H : Hp) (E : XK), Room k (A.deeper (envOfC qual (defScope st) s.heap.objs.size f cdv)) → A.guards = some [] → JSs (cxOf CX0 P w K mg base N qual (defScope st) f cdv A outer s H E).nox K (defBody st) t T)
    (hT : ∀ ds d b, gd ds = some (d, b) → T ⟨fun _ => d = .none ∧ b = false, fun d' b' => d' = d ∧ b' = b, fun _ => False, fun _ => False⟩ (startE N.length ds)) : FnOkG P w K mg base CX0 (k + 1) f fd ps (spD K gd) := by
  refine Fun.okG F S (fun vs H Q E h => ?_) (fun cdv A outer s H vs Q E hr hG h => ?_)
  · obtain ⟨Hb, ds, d, b, _, h2, h3, _⟩ := h
    rw [daAll_len h2]
    exact hlen ds _ h3
  · obtain ⟨Hb, ds, d, b, h1, h2, h3, q⟩ := h
    refine ⟨t, (hb cdv A outer s H E hr hG).pss, ?_⟩
    refine (hb cdv A outer s H E hr hG).sp H Hb ⟨fun _ => d = .none ∧ b = false, fun d' b' => d' = d ∧ b' = b, fun _ => False, fun _ => False⟩ { nx := fun _ H' => Q .non H', rt := Q } ⟨?_, ?_, fun _ _ _ _ _ h => h.elim, fun _ _ _ _ _ h => h.elim⟩ _ _ H Hb (rel_start h1 h2) (hT ds d b h3)
    · rintro env σ H' Hb' rl ⟨rfl, rfl⟩
      exact q .non H' Hb' rl.gr .non
    · rintro v d' b' H' Hb' g hs ⟨rfl, rfl⟩
      exact q v H' Hb' g hs
end
section
variable {X : Cx} {pos p : Pos} {e a : Expr} {es : List Expr} {te : TE} {t : TA} {fv : PEnv → Option PyData} {g : PEnv → Option (List PyData)} {gd : List PyData → Option (PyData × Bool)} {k : Nat} {f : Addr} {fd : FuncData} {ps : List Str} {x : Str}
theorem jv_defG (F : FnOkG X.prog X.w X.K X.mg X.base CX0 k f fd ps (spD K gd)) (hr : Room k X.A) (hG : X.A.guards = some []) (hm : X.mg x = some (.ref f)) (hk : PySem.W.keepIn X.K (.ref f) = true) (hb : L2.Binds X.K fd ps []) (hg : Gl X x)
    (ha : JA X K (e :: es) t g) (hdb : (x == ("__debug__" : Str)) = false := by decide) (he : starEach (e :: es) X.env = (false, eval e X.env) :: starEach es X.env := by rfl) (hpl : (backTo pos (starEach es X.env)).any (·.1) = false := by rfl) :
    JV X K (.Call (.Name x p) (e :: es) [] pos) (tCall (spD K gd) [] E0 t) (fDef gd g) := ⟨pe_callG F hr hG hg hm hk hb .nil pass0 ha.pa hdb he hpl, spV_def ha.sp⟩

/-! ### append, in short -/
theorem js_ap {o : Expr} {apos cpos : Pos} {fo : PEnv → Option PyData} (n : Nat) (ho : JR X K o (tVar n) fo) (he : JV X K e te fv) (hK : X.K = K := by rfl)
    (hbase : attributeBase o "append" X.env (eval o X.env) = eval o X.env := by rfl)
    (hfew : ((backTo cpos (starEach [e] X.env)).all (fun x => !x.1) && (backToKw cpos (keywordEach [] X.env)).all (fun x => x.1.isSome)
      && decide (([e] : List Expr).length + ([] : List Keyword).length + (if ([] : List Keyword).isEmpty then 0 else 1) < 30)) = true := by rfl)
    (hline : (apos.endLine == cpos.line) = true := by rfl) (hs0 : starEach [e] X.env = (false, eval e X.env) :: starEach [] X.env := by rfl)
    (hs : swapsWith (.Call (.Attribute o "append" apos) [e] [] cpos) none pos.line X.env = pure false := by rfl) :
    JS X K (.Expr (.Call (.Attribute o "append" apos) [e] [] cpos) pos) (tDrop (tBM K "list" rAppend (tVar n) (tCons te tNil))) (pApp n fv) := by
  subst hK
  exact js_app n ho he (pe_bm PySem.F.plainAttrs_list PySem.F.slot_list_append PySem.F.type_list_append mt_append ho.pe (pa_cons he.pe pa_nil hs0) hbase hfew hline hs0) hs
/-- name = [..], the list not kept as the name's own -/
theorem JS.share {st : Stmt} {tm : TE} {i : Nat} {gl : PEnv → Option (List PyData)} (h : JF X K e tm gl) (hp : PS X st (tAsg tm (gName i))) : JS X K st (tAsg tm (gName i)) (pSetV i (fL gl)) := ⟨hp, spS_setV h.sp.v⟩
theorem js_setLcV {i : Nat} {y : Str} {py : Pos} {elt tg iter : Expr} {ifs : List Expr} {scope : Scope} {own : List (Str × Nat)} {lpos spos : Pos} {wi : TI} {gg : TG} {tt : TT} {te : TE} {fi : PEnv → Option (List PyData)} {bd : PyData → PEnv → Option PEnv} {ft : PEnv → Option Bool} {fe : PEnv → Option PyData} {is : List Nat}
    (hc : X.calm = true) (hN : X.N.Nodup) (hy : X.N[i]? = some y) (hyl : X.env.scope.names.lookup y = some .local)
    (hsw : swapsWith (.ListComp elt [⟨tg, iter, ifs, 0⟩] scope lpos) (some (.Name y py)) spos.line X.env = pure true) (hi : JI X K tg iter wi fi) (ok : BlkOk X.N X.env.scope scope own)
    (hg : ∀ (s : Shared) (H : Hp) (C : Addr) (cl : List (Str × Addr)) (fp : List Addr), JG (X.blk s H scope (compEnvC scope cl C X.env) fp) K tg gg bd is)
    (ht : ∀ (s : Shared) (H : Hp) (C : Addr) (cl : List (Str × Addr)) (fp : List Addr), JTs (X.blk s H scope (compEnvC scope cl C X.env) fp) K ifs tt ft)
    (he : ∀ (s : Shared) (H : Hp) (C : Addr) (cl : List (Str × Addr)) (fp : List Addr), JV (X.blk s H scope (compEnvC scope cl C X.env) fp) K elt te fe)
    (hs : ∀ x, foldedSetIterable iter X.env x = pure x := by intro _; rfl) (hv : ∀ i ∈ is, i ∈ own.map (·.2) := by decide) :
    JS X K (.Assign [.Name y py] (.ListComp elt [⟨tg, iter, ifs, 0⟩] scope lpos) spos) (tAsg (tLc wi gg tt te (own.map (·.2))) (gName i)) (pSetV i (fL (fComp (own.map (·.2)) fi bd ft fe))) :=
  ⟨ps_setLc hc hN hy hyl hsw hi.pi ok (fun s H C cl fp => (hg s H C cl fp).pg) (fun s H C cl fp => (ht s H C cl fp).pts) (fun s H C cl fp => (he s H C cl fp).pe) hs,
    spS_setV (spF_comp hi.sp (hg X.s_0 X.H_0 0 [] []).sp (ht X.s_0 X.H_0 0 [] []).sp (he X.s_0 X.H_0 0 [] []).sp hv).v⟩

/-! ### isinstance against a built-in type -/
def tyD : PyData → String
  | .none => "NoneType"
  | .bool _ => "bool"
  | .int _ => "int"
  | .str _ => "str"
  | .list _ => "list"
  | .tuple _ => "tuple"
  | .dict _ => "dict"
def oIsi (T : String) : PyData → Option PyData := fun d => (kitB (tyD d) T).map PyData.bool
theorem da_ty {H Hb : Hp} {v : V} {d : PyData} (g : Same Hb H) (h : Da K Hb v d) : TyX K H v (.type (tyD d)) := by
  cases h with
  | non => exact .base .non
  | bl b => exact .base (.bl b)
  | int i => exact .base (.int i)
  | str x => exact .base (.str x)
  | lst hs _ =>
    rcases hs with (h | ⟨o, h⟩) | ⟨its, n, h1, _, _⟩
    · exact .base (.lst (g _ _ h))
    · exact .base (.frz (g _ _ h))
    · exact .kList h1 rfl
  | tup hs _ =>
    rcases hs with h | ⟨o, h⟩
    · exact .base (.tup (g _ _ h))
    · exact .fTuple (g _ _ h)
theorem jv_isi {x : Str} {T : String} {p2 : Pos} (ha : JV X K e te fv) (hg : Gl X "isinstance") (hm : X.mg "isinstance" = none) (hgx : Gl X x) (hmx : X.mg x = none) (hx : bootBuiltins x = some (.type T)) (hn : x ≠ "__name__" := by decide) (hd : (x == ("__debug__" : Str)) = false := by decide) (hK : X.K = K := by rfl)
    (hs : starEach [e, .Name x p2] X.env = (false, eval e X.env) :: starEach [.Name x p2] X.env := by rfl) (hs2 : starEach [.Name x p2] X.env = (false, eval (.Name x p2) X.env) :: starEach [] X.env := by rfl) (hpl : ((backTo pos (starEach [.Name x p2] X.env)).any fun x => x.fst) = false := by rfl) :
    JV X K (.Call (.Name "isinstance" p) [e, .Name x p2] [] pos) (tCB (rIsi K) (tCons te (tCons (tC (.ty T)) tNil))) (fUn (oIsi T) fv) := by
  subst hK
  refine ⟨pe_callB call_isi hg hm (by decide +kernel) (pa_cons ha.pe (pa_cons (pe_bltn (v := .ty T) hgx hmx hx rfl hn hd) pa_nil hs2) hs) (he := hs) (hpl := hpl), fun H0 Hb0 env σ H Hb d rl e Q q => ?_⟩
  unfold fUn at e
  obtain ⟨x, e1, e⟩ := Option.bind_eq_some_iff.mp e
  unfold oIsi at e
  obtain ⟨b, e2, rfl⟩ := Option.map_eq_some_iff.mp e
  refine ha.sp H0 Hb0 env σ H Hb _ rl e1 _ fun v H1 Hb1 g1 h1 => ?_
  exact ⟨v, .ty T, _, _, b, rfl, .ty T, da_ty g1.sub h1, kit_ty e2, q _ H1 Hb1 g1 (.bl _)⟩

/-! ### repr of data -/
def isDisp : PyData → Bool
  | .list _ => true
  | .tuple _ => true
  | _ => false
def oRepr : List PyData → Option PyData
  | [d] => if isDisp d = true ∧ d.showable = true ∧ d.hasDict = false ∧ d.depth ≤ 60 ∧ d.shown.length ≤ line24 then some (.str d.shown) else none
  | _ => none
def rRepr (K : PySem.W.Frag) : List V → Hp → VK → Prop := fun xs H Q => ∃ v d, xs = [v] ∧ Da K H v d ∧ isDisp d = true ∧ d.showable = true ∧ d.hasDict = false ∧ d.depth ≤ 60 ∧ d.shown.length ≤ line24 ∧ Q (.str d.shown) H
theorem call_repr (hr : X.A.units + 64 < cLine) (hG : X.A.guards = some []) : CallR X (.builtin "repr") (rRepr X.K) := by
  intro pins s σ H xs us Q I r h
  obtain ⟨v, d, rfl, hd, h1, h2, h3, h4, h5, q⟩ := h
  obtain ⟨u, rfl, rx⟩ := vals1 r
  obtain ⟨as, hrd⟩ := Dp.reads I d v u (da_dp d v hd) rx
  cases hd with
  | lst hs ha =>
    cases rx
    exact repr_of_reads' hrd h2 (fun z => by rw [h3] at z; cases z) hG (by omega) (fun _ _ e => e) (fun h' u tk hk => ⟨.str _, H, I.kept (t' := tk) hk, ⟨_, rfl⟩, q⟩) (by rw [line24_eq]; exact h5)
  | tup hs ha =>
    cases rx
    exact repr_of_reads' hrd h2 (fun z => by rw [h3] at z; cases z) hG (by omega) (fun _ _ e => e) (fun h' u tk hk => ⟨.str _, H, I.kept (t' := tk) hk, ⟨_, rfl⟩, q⟩) (by rw [line24_eq]; exact h5)
  | non => cases h1
  | bl b => cases h1
  | int b => cases h1
  | str b => cases h1
theorem callD_repr : CallD K (rRepr K) oRepr := fun xs ds c H Hb g h e Q q => by
  unfold oRepr at e
  split at e
  · split at e
    · rename_i d hc
      cases e
      obtain ⟨v, rfl, hv⟩ := da1 h
      exact ⟨v, d, rfl, da_mono g _ _ hv, hc.1, hc.2.1, hc.2.2.1, hc.2.2.2.1, hc.2.2.2.2, q _ H Hb (Grow.refl g) (.str _)⟩
    · cases e
  · cases e
theorem jv_repr (hr : Room k X.A) (hG : X.A.guards = some []) (hg : Gl X "repr") (hm : X.mg "repr" = none) (ha : JA X K [e] t g) (he : starEach [e] X.env = (false, eval e X.env) :: starEach [] X.env := by rfl) (hK : X.K = K := by rfl) :
    JV X K (.Call (.Name "repr" p) [e] [] pos) (tCB (rRepr K) t) (fCall oRepr g) := by
  subst hK
  exact ⟨pe_callB (call_repr hr.units hG) hg hm (by decide +kernel) ha.pa (he := he), spV_call ha.sp callD_repr⟩
end

/-! ### the law's end -/
theorem law_callG {P : Program} {w : World} {mg mb : Str → Option Value} {k : Nat} {fa a : Addr} {fd : FuncData} {x : Str} {gd : List PyData → Option (PyData × Bool)} {s₁ : Shared} {vs : List Value} {ns : List Int}
    (KX : K.In s₁.heap) (hns : s₁.heap.Ns mainGlobals mg) (hb : s₁.heap.Ns builtinsNs mb) (hbb : ∀ x : Str, x ≠ "__name__" → mb x = bootBuiltins x) (hlim : s₁.heap.NoLimit) (hg : s₁.gens = #[])
    (ha : s₁.heap.get? a = some { cls := .type "list", data := .seq vs.toArray }) (hi : IntsAre vs ns) (hl : ns.length ≤ sizeLine) (hr : Room k callerA)
    (hseer : s₁.heap.NoSeer) (F : ∀ base : Heap, K.In base → base.Ns mainGlobals mg → base.NoSeer → FnOkG P w K mg base CX0 k fa fd [x] (spD K gd)) (hbind : ∀ (s : Shared) (u : Value), BindsTo s fd ⟨[u], []⟩ [(x, u)])
    (hgd : gd [.list (ns.map PyData.int)] = some (.bool true, false)) :
    codeAny (model P w) callerA (.call (.ref fa) ⟨[.ref a], []⟩) (fun r s' => r = .ok (.ret (.bool true)) ∧ OldK s₁.heap s'.heap ∧ s'.os = s₁.os ∧ AllBare s'.gens) s₁ := by
  have rv := vals_ints hi
  have lenV := hi.length
  have core : ∀ H : Hp, Only H → RdL K H a (ns.map V.int) → HOk P w H s₁.heap → (∀ b, H b ≠ none → b = a) → (H a ≠ none → K.lookup a = none) →
      codeAny (model P w) callerA (.call (.ref fa) ⟨[.ref a], []⟩) (fun r s' => r = .ok (.ret (.bool true)) ∧ OldK s₁.heap s'.heap ∧ s'.os = s₁.os ∧ AllBare s'.gens) s₁ := by
    intro H hO hS hok hA hK
    have base_of : ∀ {b : Addr} {o : Obj}, s₁.heap.get? b = some o → H b = none → (hidT s₁.heap H).get? b = some o := fun e n => hidT_get e n
    have noA : ∀ {b : Addr} {o : Obj} {es : Array DictEntry} {ep : Nat}, s₁.heap.get? b = some o → o.data = .dict es ep → H b = none := fun {b o es ep} e d => by
      cases q : H b with
      | none => rfl
      | some u =>
        have e' : b = a := hA b (by rw [q]; simp)
        subst e'
        rw [ha] at e; cases e
        have d' : Data.seq vs.toArray _ = Data.dict es ep := d
        cases d'
    have nsK : ∀ {b : Addr} {m : Str → Option Value}, s₁.heap.Ns b m → (hidT s₁.heap H).Ns b m := fun {b m} ⟨o, es, ep, e, d, r⟩ => ⟨o, es, ep, base_of e (noA e d), d, r⟩
    have hKb : K.In (hidT s₁.heap H) := fun b o e => base_of (KX b o e) (by
      cases q : H b with
      | none => rfl
      | some u =>
        have e' : b = a := hA b (by rw [q]; simp)
        subst e'
        rw [hK (by rw [q]; simp)] at e; cases e)
    have hM : Mod K mg (hidT s₁.heap H) := ⟨hKb, nsK hns, ⟨mb, nsK hb, hbb⟩, let ⟨mc, h1, h2⟩ := hlim; ⟨mc, nsK h1, h2⟩⟩
    have e0 : Env0 P w K mg (hidT s₁.heap H) callerA [] s₁ H := ⟨rfl, hM, fun b o e => of_hidT e, Nat.le_of_eq (hidT_size _ _), trivial, fun b hb => absurd (show b ∈ ([] : List Addr) from hb) (by simp), hok, .of_eq hg⟩
    have hNS : (hidT s₁.heap H).NoSeer := by
      obtain ⟨mc, c1, c2⟩ := hseer.statics
      obtain ⟨mm, m1, m2⟩ := hseer.mods
      obtain ⟨mb', b1, b2⟩ := hseer.imp
      obtain ⟨mg', bm, ob, g1, g2, g3, g4, g5⟩ := hseer.main
      refine ⟨⟨mc, nsK c1, c2⟩, ⟨mm, nsK m1, m2⟩, ⟨mb', nsK b1, b2⟩, ⟨mg', bm, ob, nsK g1, g2, base_of g3 ?_, g4, g5⟩⟩
      cases q : H bm with
      | none => rfl
      | some u =>
        have e' : bm = a := hA bm (by rw [q]; simp)
        subst e'
        rw [ha] at g3; cases g3
        have g4' : Value.type "list" = Value.type "module" := g4
        exact absurd g4' (by decide +kernel)
    have hda : ∀ ms : List Int, DaAll K H (ms.map V.int) (ms.map PyData.int) := fun ms => by
      induction ms with
      | nil => exact .nil
      | cons m ms ih => exact .cons (.int m) ih
    refine codeAny_mono ((F _ hKb (nsK hns) hNS).run callerA [] s₁ H ⟨[.ref a], []⟩ [.ref a] [.ref a] (fun v _ => v = .bl true) (fun _ _ _ => False) hr rfl e0 (hbind s₁ (.ref a)) (.cons rfl .nil)
      ⟨H, [.list (ns.map PyData.int)], .bool true, false, Same.refl _, .cons (.lst hS (hda ns)) .nil, hgd, fun v H' Hb' _ hv => by cases (show Da K Hb' v (.bool true) from hv); rfl⟩) fun r s' h => ?_
    cases r with
    | error e => exact False.elim h
    | ok fl =>
      cases fl with
      | next => exact False.elim h
      | brk => exact False.elim h
      | cont => exact False.elim h
      | ret u =>
        obtain ⟨v, H', os, bare, un, hok', r', q⟩ := h
        have q' : v = .bl true := q
        subst q'
        obtain rfl : u = Value.bool true := r'
        refine ⟨rfl, OldK.of_keep fun b o e => ?_, os, bare⟩
        cases q : H b with
        | none => exact un.keep b o e q (by intro z; exact absurd (show b ∈ ([] : List Addr) from z) (by simp)) (by simp)
        | some u =>
          rcases hO b with z | ⟨ob, xs, z⟩
          · rw [q] at z; cases z
          · have z2 := un.frzs b ob _ z
            obtain ⟨e1, _⟩ := hok b _ z
            obtain ⟨e2, _⟩ := hok' b _ z2
            rw [e] at e1; cases e1
            exact e2
  cases hk : K.lookup a with
  | some o =>
    have e := KX a o hk
    rw [ha] at e
    cases e
    refine core (fun _ => none) (fun _ => .inl rfl) (.inr ⟨vs.toArray, _, hk, by rw [List.size_toArray, lenV]; exact hl, by simpa using rv⟩) (fun b u z => by have z' : (none : Option HO) = some u := z; cases z') (fun b z => absurd rfl z) fun z => absurd rfl z
  | none =>
    refine core (fun b => if b = a then some (.frz { cls := .type "list", data := .seq vs.toArray } (.lst (ns.map V.int))) else none) (fun b => ?_) (.inl (.inr ⟨{ cls := .type "list", data := .seq vs.toArray }, if_pos rfl⟩)) (fun b u z => ?_) (fun b z => ?_) fun _ => hk
    · by_cases hb : b = a
      · exact .inr ⟨_, _, if_pos hb⟩
      · exact .inl (if_neg hb)
    · by_cases hb : b = a
      · have z' := (if_pos hb).symm.trans z
        cases z'
        subst hb
        exact ⟨ha, by rw [List.length_map]; exact hl, vs, _, rv, ha⟩
      · have z' := (if_neg hb).symm.trans z
        cases z'
    · by_cases hb : b = a
      · exact hb
      · exact absurd (if_neg hb) z
/-- the goal that k_head leaves, from the law's def as data -/
theorem walk_ofG {l : PySem.W.OpenLaw} {k : Nat} {q : Program} {loose : List Str} {XP : (Str → Option Value) → Heap → Prop} {YP : World → Heap → Prop} {d : DefRec} {K : Params → PySem.W.Frag} {x : Str} {gd : List PyData → Option (PyData × Bool)}
    (hn : l.most = some 63) (hdf : d.params.defaults = []) (hr : Room k callerA)
    (hY : ∀ (w : World) (h : Heap), YP w h → (K w.params).In h)
    (F : ∀ (w : World) (mg : Str → Option Value) (fa : Addr) (h : Heap), (K w.params).In h → h.Ns mainGlobals mg → mg d.name = some (.ref fa) →
      ∃ fd : FuncData, (∀ (s : Shared) (u : Value), BindsTo s fd ⟨[u], []⟩ [(x, u)]) ∧
        ∀ base : Heap, (K w.params).In base → base.Ns mainGlobals mg → base.NoSeer → FnOkG l.prog w (K w.params) mg base CX0 k fa fd [x] (spD (K w.params) gd))
    (hi : importsNone q = true) (hgd : ∀ ns : List Int, ns.length ≤ 63 → (∀ z ∈ ns, Builtin.Int.intBits z ≤ 1048576) → gd [.list (ns.map PyData.int)] = some (.bool true, false)) :
    PySem.W.WalkO q loose XP YP l.row.toRowW d [] (fun f vs => PySem.call f vs) := by
  refine Att.attach_callB hn hdf fun w s₀ s₁ mg mb fa o pm cd doc a vs ns G Y ho hd hcd hmg hobj hints hlen hbits hg => ?_
  have KX := hY w _ Y
  obtain ⟨fd, hb, hF⟩ := F w mg fa _ KX G.T.g hmg
  exact law_callG KX G.T.g G.T.b G.T.builtins G.T.nolimit hg hobj hints (Nat.le_trans hlen (by decide)) hr (G.T.seer hi) hF hb (hgd ns hlen hbits)
end PD

set_option Elab.async false
set_option linter.all false
set_option maxRecDepth 100000
set_option maxHeartbeats 4000000
set_option autoImplicit false
namespace PD
open PySem PySem.Spec L2
open PyProof.Rows hiding St
variable {K : PySem.W.Frag}
abbrev GD := List PyData → Option (PyData × Bool)
/-- the built-ins' names are still theirs -/
structure Bi (mg : Str → Option Value) : Prop where
  abs : mg "abs" = none
  all : mg "all" = none
  any : mg "any" = none
  bool : mg "bool" = none
  dict : mg "dict" = none
  enumerate : mg "enumerate" = none
  int : mg "int" = none
  isinstance : mg "isinstance" = none
  len : mg "len" = none
  list : mg "list" = none
  max : mg "max" = none
  min : mg "min" = none
  range : mg "range" = none
  repr : mg "repr" = none
  reversed : mg "reversed" = none
  set : mg "set" = none
  sorted : mg "sorted" = none
  str : mg "str" = none
  sum : mg "sum" = none
  tuple : mg "tuple" = none
  zip : mg "zip" = none
section
variable (P : Program) (w : World) (K : PySem.W.Frag) (mg : Str → Option Value) (base : Heap)
def Callee (k : Nat) (x : Str) (ps : List Str) (gd : GD) : Prop := ∃ (f : Addr) (fd : FuncData), FnOk P w K mg base CX0 k f fd ps (spD K gd) ∧ mg x = some (.ref f) ∧ PySem.W.keepIn K (.ref f) = true ∧ L2.Binds K fd ps []
def CalleeG (k : Nat) (x : Str) (ps : List Str) (gd : GD) : Prop := ∃ (f : Addr) (fd : FuncData), FnOkG P w K mg base CX0 k f fd ps (spD K gd) ∧ mg x = some (.ref f) ∧ PySem.W.keepIn K (.ref f) = true ∧ L2.Binds K fd ps []
end
section
variable {X : Cx} {pos p : Pos} {e : Expr} {es : List Expr} {t : TA} {g : PEnv → Option (List PyData)} {gd : GD} {k : Nat} {ps : List Str} {x : Str}
theorem jv_d (C : Callee X.prog X.w X.K X.mg X.base k x ps gd) (hr : Room k X.A) (hg : Gl X x) (ha : JA X K (e :: es) t g) (hdb : (x == ("__debug__" : Str)) = false := by decide)
    (he : starEach (e :: es) X.env = (false, eval e X.env) :: starEach es X.env := by rfl) (hpl : (backTo pos (starEach es X.env)).any (·.1) = false := by rfl) (hK : X.K = K := by rfl) :
    JV X K (.Call (.Name x p) (e :: es) [] pos) (tCall (spD K gd) [] E0 t) (fDef gd g) := by
  subst hK
  obtain ⟨f, fd, F, hm, hk, hb⟩ := C
  exact jv_def F hr hm hk hb hg ha hdb he hpl
theorem jf_d (C : Callee X.prog X.w X.K X.mg X.base k x ps gd) (hr : Room k X.A) (hg : Gl X x) (ha : JA X K (e :: es) t g) (hdb : (x == ("__debug__" : Str)) = false := by decide)
    (he : starEach (e :: es) X.env = (false, eval e X.env) :: starEach es X.env := by rfl) (hpl : (backTo pos (starEach es X.env)).any (·.1) = false := by rfl) (hK : X.K = K := by rfl) :
    JF X K (.Call (.Name x p) (e :: es) [] pos) (tCall (spD K gd) [] E0 t) (fDefF gd g) := by
  subst hK
  obtain ⟨f, fd, F, hm, hk, hb⟩ := C
  exact jf_def F hr hm hk hb hg ha hdb he hpl
theorem jv_d0 (C : Callee X.prog X.w X.K X.mg X.base k x ps gd) (hr : Room k X.A) (hg : Gl X x) (hdb : (x == ("__debug__" : Str)) = false := by decide) (hK : X.K = K := by rfl) :
    JV X K (.Call (.Name x p) [] [] pos) (tCall (spD K gd) [] E0 tNil) (fDef gd fNil) := by
  subst hK
  obtain ⟨f, fd, F, hm, hk, hb⟩ := C
  exact jv_def0 F hr hm hk hb hg hdb
theorem jf_d0 (C : Callee X.prog X.w X.K X.mg X.base k x ps gd) (hr : Room k X.A) (hg : Gl X x) (hdb : (x == ("__debug__" : Str)) = false := by decide) (hK : X.K = K := by rfl) :
    JF X K (.Call (.Name x p) [] [] pos) (tCall (spD K gd) [] E0 tNil) (fDefF gd fNil) := by
  subst hK
  obtain ⟨f, fd, F, hm, hk, hb⟩ := C
  exact jf_def0 F hr hm hk hb hg hdb
theorem jv_dG (C : CalleeG X.prog X.w X.K X.mg X.base k x ps gd) (hr : Room k X.A) (hG : X.A.guards = some []) (hg : Gl X x) (ha : JA X K (e :: es) t g) (hdb : (x == ("__debug__" : Str)) = false := by decide)
    (he : starEach (e :: es) X.env = (false, eval e X.env) :: starEach es X.env := by rfl) (hpl : (backTo pos (starEach es X.env)).any (·.1) = false := by rfl) (hK : X.K = K := by rfl) :
    JV X K (.Call (.Name x p) (e :: es) [] pos) (tCall (spD K gd) [] E0 t) (fDef gd g) := by
  subst hK
  obtain ⟨f, fd, F, hm, hk, hb⟩ := C
  exact jv_defG F hr hG hm hk hb hg ha hdb he hpl
end
/-- what is wanted of a body that has to answer d -/
def endsOf (d : PyData) (b : Bool) : PEnds := ⟨fun _ => d = .none ∧ b = false, fun d' b' => d' = d ∧ b' = b, fun _ => False, fun _ => False⟩
section
variable {P : Program} {w : World} {mg : Str → Option Value} {base : Heap}
theorem fn_ok2 {x qual : Str} {st : Stmt} {f : Addr} {fd : FuncData} {N ps : List Str} {k n m : Nat} {gd : GD} {T : PTS} (F : Fun K x qual st f fd) (S : FnScope N ps (defScope st))
    (hlen : ∀ ds r, gd ds = some r → ds.length = m)
    (hb : ∀ (cdv : Value) (A : Around) (outer : List Env) (s : Shared) (H : Hp) (E : XK), Room k (A.deeper (envOfC qual (defScope st) s.heap.objs.size f cdv)) → ∃ t, JSs (cxOf CX0 P w K mg base N qual (defScope st) f cdv A outer s H E).nox K (defBody st) t T)
    (hT : ∀ ds d b, gd ds = some (d, b) → T (endsOf d b) (startE n ds)) (hn : N.length = n := by rfl) (hm : ps.length = m := by rfl) : FnOk P w K mg base CX0 (k + 1) f fd ps (spD K gd) := by
  subst hn
  refine F.ok S (fun vs H Q E h => ?_) (fun cdv A outer s H vs Q E hr h => ?_)
  · obtain ⟨Hb, ds, d, b, _, h2, h3, _⟩ := h
    rw [daAll_len h2, hm]
    exact hlen ds _ h3
  · obtain ⟨Hb, ds, d, b, h1, h2, h3, q⟩ := h
    obtain ⟨t, J⟩ := hb cdv A outer s H E hr
    refine ⟨t, J.pss, ?_⟩
    refine J.sp H Hb (endsOf d b) { nx := fun _ H' => Q .non H', rt := Q } ⟨?_, ?_, fun _ _ _ _ _ h => h.elim, fun _ _ _ _ _ h => h.elim⟩ _ _ H Hb (rel_start h1 h2) (hT ds d b h3)
    · rintro env σ H' Hb' rl ⟨rfl, rfl⟩
      exact q .non H' Hb' rl.gr .non
    · rintro v d' b' H' Hb' g hs ⟨rfl, rfl⟩
      exact q v H' Hb' g hs
theorem fn_okG2 {x qual : Str} {st : Stmt} {f : Addr} {fd : FuncData} {N ps : List Str} {k n m : Nat} {gd : GD} {T : PTS} (F : Fun K x qual st f fd) (S : FnScope N ps (defScope st))
    (hlen : ∀ ds r, gd ds = some r → ds.length = m)
    (hb : ∀ (cdv : Value) (A : Around) (outer : List Env) (s : Shared) (H : Hp) (E : XK), Room k (A.deeper (envOfC qual (defScope st) s.heap.objs.size f cdv)) → A.guards = some [] → ∃ t, JSs (cxOf CX0 P w K mg base N qual (defScope st) f cdv A outer s H E).nox K (defBody st) t T)
    (hT : ∀ ds d b, gd ds = some (d, b) → T (endsOf d b) (startE n ds)) (hn : N.length = n := by rfl) (hm : ps.length = m := by rfl) : FnOkG P w K mg base CX0 (k + 1) f fd ps (spD K gd) := by
  subst hn
  refine Fun.okG F S (fun vs H Q E h => ?_) (fun cdv A outer s H vs Q E hr hG h => ?_)
  · obtain ⟨Hb, ds, d, b, _, h2, h3, _⟩ := h
    rw [daAll_len h2, hm]
    exact hlen ds _ h3
  · obtain ⟨Hb, ds, d, b, h1, h2, h3, q⟩ := h
    obtain ⟨t, J⟩ := hb cdv A outer s H E hr hG
    refine ⟨t, J.pss, ?_⟩
    refine J.sp H Hb (endsOf d b) { nx := fun _ H' => Q .non H', rt := Q } ⟨?_, ?_, fun _ _ _ _ _ h => h.elim, fun _ _ _ _ _ h => h.elim⟩ _ _ H Hb (rel_start h1 h2) (hT ds d b h3)
    · rintro env σ H' Hb' rl ⟨rfl, rfl⟩
      exact q .non H' Hb' rl.gr .non
    · rintro v d' b' H' Hb' g hs ⟨rfl, rfl⟩
      exact q v H' Hb' g hs
end
end PD
namespace PD
open PySem PySem.Spec L2
open PyProof.Rows hiding St
variable {K : PySem.W.Frag}
section
variable {X : Cx} {pos : Pos} {a b : Expr} {ta tb : TE} {fa fb f : PEnv → Option PyData} {te : TE}
theorem spT_test (h : SpV K te f) : SpT K (tTest te) (fB f) := fun H0 Hb0 env σ H Hb b rl e Q q => by
  unfold fB at e
  obtain ⟨x, e1, e⟩ := Option.bind_eq_some_iff.mp e
  split at e
  · cases e
    refine h H0 Hb0 env σ H Hb _ rl e1 _ fun v H1 Hb1 g1 h1 => ?_
    cases h1
    exact ⟨_, rfl, q H1 Hb1 g1⟩
  · cases e
theorem jt_lt (ha : JV X K a ta fa) (hb : JV X K b tb fb) : JT X K (.Compare a [.Lt] [b] pos) (tTest (tOp (rI0 fun i j => .bl (decide (i < j))) ta tb)) (fB (fBin oLt fa fb)) := ⟨pt_cmpR op_lt ha.pe hb.pe (nomark _), spT_test (spV_bin ha.sp hb.sp opD_B0)⟩
theorem jt_le (ha : JV X K a ta fa) (hb : JV X K b tb fb) : JT X K (.Compare a [.LtE] [b] pos) (tTest (tOp (rI0 fun i j => .bl (decide (i ≤ j))) ta tb)) (fB (fBin oLe fa fb)) := ⟨pt_cmpR op_le ha.pe hb.pe (nomark _), spT_test (spV_bin ha.sp hb.sp opD_B0)⟩
theorem jt_gt (ha : JV X K a ta fa) (hb : JV X K b tb fb) : JT X K (.Compare a [.Gt] [b] pos) (tTest (tOp (rI0 fun i j => .bl (decide (j < i))) ta tb)) (fB (fBin oGt fa fb)) := ⟨pt_cmpR op_gt ha.pe hb.pe (nomark _), spT_test (spV_bin ha.sp hb.sp opD_B0)⟩
theorem jt_ge (ha : JV X K a ta fa) (hb : JV X K b tb fb) : JT X K (.Compare a [.GtE] [b] pos) (tTest (tOp (rI0 fun i j => .bl (decide (j ≤ i))) ta tb)) (fB (fBin oGe fa fb)) := ⟨pt_cmpR op_ge ha.pe hb.pe (nomark _), spT_test (spV_bin ha.sp hb.sp opD_B0)⟩
theorem jt_eq {k : Nat} (hr : Room k X.A) (ha : JV X K a ta fa) (hb : JV X K b tb fb) (hK : X.K = K := by rfl) : JT X K (.Compare a [.Eq] [b] pos) (tTest (tOp (rEqD K) ta tb)) (fB (fBin oEq fa fb)) := by
  subst hK
  exact ⟨pt_cmpR (op_eqD hr.units) ha.pe hb.pe (nomark _), spT_test (spV_bin ha.sp hb.sp opD_eq)⟩
theorem jt_ne {k : Nat} (hr : Room k X.A) (ha : JV X K a ta fa) (hb : JV X K b tb fb) (hK : X.K = K := by rfl) : JT X K (.Compare a [.NotEq] [b] pos) (tTest (tOp (rNeD K) ta tb)) (fB (fBin oNe fa fb)) := by
  subst hK
  exact ⟨pt_cmpR (op_neD hr.units) ha.pe hb.pe (nomark _), spT_test (spV_bin ha.sp hb.sp opD_ne)⟩
theorem jt_isN (ha : JV X K a ta fa) (hb : JV X K b tb fb) : JT X K (.Compare a [.Is] [b] pos) (tTest (tOp (fun x y H Q => y = .non ∧ Q (.bl (decide (x = .non))) H) ta tb)) (fB (fBin (oIsN false) fa fb)) := ⟨pt_cmpR op_isN ha.pe hb.pe (nomark _), spT_test (spV_bin ha.sp hb.sp opD_isN)⟩
theorem jt_notN (ha : JV X K a ta fa) (hb : JV X K b tb fb) : JT X K (.Compare a [.IsNot] [b] pos) (tTest (tOp (fun x y H Q => y = .non ∧ Q (.bl (!decide (x = .non))) H) ta tb)) (fB (fBin (oIsN true) fa fb)) := ⟨pt_cmpR op_notN ha.pe hb.pe (nomark _), spT_test (spV_bin ha.sp hb.sp opD_notN)⟩
end
end PD
namespace PD
open PySem PySem.Spec L2
open PyProof.Rows hiding St
variable {K : PySem.W.Frag}
/-! ### // of any size -/
structure Bz (P : Program) (base : Heap) : Prop where
  seer : base.NoSeer
  tree : P.given.tree = none
def TopEnv (X : Cx) : Prop := ∃ env l, X.stack = env :: l ∧ env.scope.isGenerator = false ∧ env.scope.isCoroutine = false ∧ env.builtins = builtinsNs ∧ env.globals = mainGlobals
section
variable {X : Cx} {pos : Pos} {a b : Expr} {ta tb : TE} {fa fb f : PEnv → Option PyData} {te : TE}
theorem op_fdivZ (Z : Bz X.prog X.base) (hr : Room 40 X.A) (ht : TopEnv X) : OpR X (binaryOp .FloorDiv) (rI (fun _ j => j ≠ 0) fun i j => .int (i.fdiv j)) := by
  intro pins s σ H x y v u Q I rx ry h
  obtain ⟨i, j, rfl, rfl, hc, q⟩ := h
  obtain ⟨t, rfl⟩ := rx
  obtain ⟨t', rfl⟩ := ry
  obtain ⟨env, l, h1, h2, h3, h4, h5⟩ := ht
  have hf : X.A.frames = some (env :: l) := by rw [I.ok.frames, h1]
  have hd := hr.dp
  have hs : SeerAt (model X.prog X.w) X.A s.heap := SeerAt.of (M := model X.prog X.w) (Z.seer.keeps I.bk) Z.tree hf h2 h3 h4 h5
  exact floordiv_int hc ⟨.int (i.fdiv j), H, I.tok _, ⟨_, rfl⟩, q⟩ (.inr (PylongRoom.of I.nolimit (by show X.A.depth + 100 < recursionLimit; omega) hs))
def oDivZ := oI (fun _ j => decide (j ≠ 0)) Int.fdiv
theorem jv_divZ {k : Nat} (Z : Bz X.prog X.base) (hr : Room k X.A) (ha : JV X K a ta fa) (hb : JV X K b tb fb) (hk : 40 ≤ k := by decide) (ht : TopEnv X := by exact ⟨_, _, rfl, rfl, rfl, rfl, rfl⟩) :
    JV X K (.BinOp a .FloorDiv b pos) (tOp (rI (fun _ j => j ≠ 0) fun i j => .int (i.fdiv j)) ta tb) (fBin oDivZ fa fb) :=
  ⟨pe_op (op_fdivZ Z (hr.mono hk) ht) ha.pe hb.pe, spV_bin ha.sp hb.sp (opD_I fun i j h => of_decide_eq_true h)⟩

/-! ### min of a list of ints -/
def leastOf : List Int → Option Int
  | [] => none
  | [a] => some a
  | a :: b :: r => (leastOf (b :: r)).map fun m => if m < a then m else a
theorem leastOf_spec : ∀ {l : List Int} {m : Int}, leastOf l = some m → m ∈ l ∧ ∀ y ∈ l, m ≤ y
  | [], m, h => by cases h
  | [a], m, h => by
    cases h
    exact ⟨List.mem_cons_self, fun y hy => by simp at hy; omega⟩
  | a :: b :: r, m, h => by
    obtain ⟨m', h1, h2⟩ := Option.map_eq_some_iff.mp h
    obtain ⟨q1, q2⟩ := leastOf_spec h1
    subst h2
    split
    · rename_i hlt
      refine ⟨List.mem_cons_of_mem _ q1, fun y hy => ?_⟩
      rcases List.mem_cons.mp hy with rfl | hy
      · omega
      · exact q2 y hy
    · rename_i hge
      refine ⟨List.mem_cons_self, fun y hy => ?_⟩
      rcases List.mem_cons.mp hy with rfl | hy
      · omega
      · have := q2 y hy; omega
def oMin1 : List PyData → Option PyData
  | [.list ds] => (ints? ds).bind fun bs => (leastOf bs).map PyData.int
  | _ => none
theorem callD_min1 : CallD K (rMin K) oMin1 := fun xs ds c H Hb g h e Q q => by
  unfold oMin1 at e
  split at e
  · obtain ⟨bs, h1, e⟩ := Option.bind_eq_some_iff.mp e
    obtain ⟨m, h2, rfl⟩ := Option.map_eq_some_iff.mp e
    obtain ⟨v, rfl, hv⟩ := da1 h
    cases hv with
    | lst hs ha =>
      have e1 := ints_of h1 ha
      subst e1
      obtain ⟨q1, q2⟩ := leastOf_spec h2
      refine ⟨_, bs, rfl, (hs.mono g).sq, List.length_pos_iff.mpr (fun z => by rw [z] at q1; cases q1), fun m' hm hle => ?_⟩
      have : m' = m := by have := hle m q1; have := q2 m' hm; omega
      subst this
      exact q _ H Hb (Grow.refl g) (.int _)
  · cases e
theorem jv_min1 {e : Expr} {p : Pos} {t : TA} {g : PEnv → Option (List PyData)} (hc : X.calm = true) (hg : Gl X "min") (hm : X.mg "min" = none) (ha : JA X K [e] t g) (he : starEach [e] X.env = (false, eval e X.env) :: starEach [] X.env := by rfl) (hK : X.K = K := by rfl) : JV X K (.Call (.Name "min" p) [e] [] pos) (tCB (rMin K) t) (fCall oMin1 g) := by
  subst hK
  exact ⟨pe_callB (cr_min hc) hg hm (by decide +kernel) ha.pa (he := he), spV_call ha.sp callD_min1⟩
end
end PD

set_option Elab.async false
set_option linter.all false
set_option maxRecDepth 100000
set_option maxHeartbeats 4000000
set_option autoImplicit false
namespace PD
open PySem PySem.Spec L2
open PyProof.Rows hiding St

/-! ### what the pure forms come to -/
section
variable {E : PEnds} {env : PEnv} {T U : PTS} {f fk fv : PEnv → Option PyData} {g : PEnv → Option (List PyData)} {c : PEnv → Option Bool} {i j : Nat} {l : List Nat} {bd : PyData → PEnv → Option PEnv}
@[simp] theorem pNext_ : pNext E env = E.nx env := rfl
@[simp] theorem pSeq_ : pSeq T U E env = T { E with nx := U E } env := rfl
@[simp] theorem pDrop_ : pDrop l T E env = T E (dropE l env) := rfl
@[simp] theorem pSetV_ : pSetV i f E env = ∃ d, f env = some d ∧ E.nx (env.set i (some (d, false))) := rfl
@[simp] theorem pSetF_ : pSetF i g E env = ∃ ds, g env = some ds ∧ E.nx (env.set i (some (.list ds, true))) := rfl
@[simp] theorem pSetG_ : pSetG f bd E env = ∃ d, f env = some d ∧ ∃ env', bd d env = some env' ∧ E.nx env' := rfl
@[simp] theorem pPar_ : pPar i j g E env = ∃ a b, g env = some [a, b] ∧ E.nx ((env.set i (some (a, false))).set j (some (b, false))) := rfl
@[simp] theorem pItem_ : pItem i fk fv E env = ∃ d ds k j, fv env = some d ∧ env[i]? = some (some (.list ds, true)) ∧ fk env = some (.int k) ∧ ixN ds.length k = some j ∧ E.nx (env.set i (some (.list (ds.set j d), true))) := rfl
@[simp] theorem pApp_ : pApp i fv E env = ∃ d ds, fv env = some d ∧ env[i]? = some (some (.list ds, true)) ∧ ds.length < 1000000 ∧ E.nx (env.set i (some (.list (ds ++ [d]), true))) := rfl
@[simp] theorem pRetV_ : pRetV f E env = ∃ d, f env = some d ∧ E.rt d false := rfl
@[simp] theorem pRetF_ : pRetF g E env = ∃ ds, g env = some ds ∧ E.rt (.list ds) true := rfl
@[simp] theorem pRetN_ : pRetN i E env = ∃ d b, env[i]? = some (some (d, b)) ∧ E.rt d b := rfl
@[simp] theorem pRet0_ : pRet0 E env = E.rt .none false := rfl
@[simp] theorem pBreak_ : pBreak E env = E.bk env := rfl
@[simp] theorem pCont_ : pCont E env = E.ct env := rfl
@[simp] theorem pIf_ : pIf c T U E env = ∃ b, c env = some b ∧ if b = true then T E env else U E env := rfl
@[simp] theorem endsOf_rt {d d' : PyData} {b b' : Bool} : (endsOf d b).rt d' b' = (d' = d ∧ b' = b) := rfl
@[simp] theorem endsOf_nx {d : PyData} {b : Bool} {env : PEnv} : (endsOf d b).nx env = (d = .none ∧ b = false) := rfl
end
section
variable {env : PEnv} {f g : PEnv → Option PyData} {c c' : PEnv → Option Bool} {i : Nat} {op : PyData → PyData → Option PyData} {o1 : PyData → Option PyData} {gs : PEnv → Option (List PyData)} {ol : List PyData → Option PyData} {gd : GD} {fl fh : PEnv → Option (Option Int)}
@[simp] theorem fC_ {d : PyData} : fC d env = some d := rfl
@[simp] theorem fBin_ : fBin op f g env = (f env).bind fun x => (g env).bind fun y => op x y := rfl
@[simp] theorem fUn_ : fUn o1 f env = (f env).bind o1 := rfl
@[simp] theorem fNil_ : fNil env = some [] := rfl
@[simp] theorem fCons_ : fCons f gs env = (f env).bind fun d => (gs env).map fun ds => d :: ds := rfl
@[simp] theorem fTup_ : fTup gs env = (gs env).bind fun ds => if ds.length ≤ 1000 then some (.tuple ds) else none := rfl
@[simp] theorem fLst_ : fLst gs env = (gs env).bind fun ds => if ds.length ≤ 1000 then some ds else none := rfl
@[simp] theorem fL_ : fL gs env = (gs env).map PyData.list := rfl
@[simp] theorem fCall_ : fCall ol gs env = (gs env).bind ol := rfl
@[simp] theorem fIx_ : fIx f g env = (f env).bind fun x => (g env).bind fun y => oIx x y := rfl
@[simp] theorem fO0_ : fO0 env = some none := rfl
@[simp] theorem fAnd_ : fAnd c c' env = (c env).bind fun b => if b = true then c' env else some false := rfl
@[simp] theorem fOr_ : fOr c c' env = (c env).bind fun b => if b = true then some true else c' env := rfl
@[simp] theorem fNot_ : fNot c env = (c env).map fun b => !b := rfl
@[simp] theorem fIf_ : fIf c f g env = (c env).bind fun b => if b = true then f env else g env := rfl
@[simp] theorem fTru_ : fTru f env = (f env).bind tru := rfl
@[simp] theorem fDef_ : fDef gd gs env = (gs env).bind fun ds => (gd ds).map (·.1) := rfl
@[simp] theorem fYes_ : fYes env = some true := rfl
@[simp] theorem bN_ {d : PyData} : bN i d env = some (env.set i (some (d, false))) := rfl
@[simp] theorem fVar_ : fVar i env = match env[i]? with | some (some (d, _)) => some d | _ => none := rfl
@[simp] theorem fVarV_ : fVarV i env = match env[i]? with | some (some (d, false)) => some d | _ => none := rfl
@[simp] theorem fB_ : fB f env = (f env).bind fun | .bool b => some b | _ => none := rfl
@[simp] theorem fO1_ : fO1 f env = (f env).bind fun | .int i => some (some i) | _ => none := rfl
@[simp] theorem fSl_ : fSl f fl fh env = (f env).bind fun x => (fl env).bind fun lo => (fh env).bind fun hi => match x with | .list ds => some (cutD ds lo hi) | _ => none := rfl
@[simp] theorem fList_ : fList f env = (f env).bind fun | .list ds => some ds | .tuple ds => some ds | _ => none := rfl
@[simp] theorem fCat_ : fCat f g env = (f env).bind fun x => (g env).bind fun y => match x, y with | .list xs, .list ys => if xs.length + ys.length ≤ line24 then some (xs ++ ys) else none | _, _ => none := rfl
@[simp] theorem fRep_ : fRep f g env = (f env).bind fun x => (g env).bind fun y => match x, y with | .list xs, .int k => if k < 1000000 ∧ xs.length * k.toNat ≤ line24 ∧ -1000000 ≤ k then some (List.replicate k.toNat xs).flatten else none | _, _ => none := rfl
@[simp] theorem fDefF_ : fDefF gd gs env = (gs env).bind fun ds => (gd ds).bind fun | (.list es, true) => some es | _ => none := rfl
@[simp] theorem iL_ : iL f env = (f env).bind fun | .list ds => some ds | _ => none := rfl
@[simp] theorem fAndV_ : fAndV f g env = (f env).bind fun | .bool b => if b = true then g env else some (.bool false) | _ => none := rfl
@[simp] theorem fOrV_ : fOrV f g env = (f env).bind fun | .bool b => if b = true then some (.bool true) else g env | _ => none := rfl
@[simp] theorem iR1_ : iR1 gs env = (gs env).bind fun | [.int n] => if -1000000000 ≤ n ∧ n ≤ 1000000000 then some (rangeD 0 n.toNat) else none | _ => none := rfl
@[simp] theorem iR2_ : iR2 gs env = (gs env).bind fun | [.int m, .int n] => if (-1000000000 ≤ n ∧ n ≤ 1000000000) ∧ -1000000000 ≤ m ∧ m ≤ 1000000000 then some (rangeD m (n - m).toNat) else none | _ => none := rfl
@[simp] theorem iRev1_ : iRev1 f env = (f env).bind fun | .int n => if -1000000000 ≤ n ∧ n ≤ 1000000000 then some ((List.range n.toNat).map fun (k : Nat) => PyData.int (((n.toNat : Nat) : Int) - 1 - k)) else none | _ => none := rfl
@[simp] theorem dropE_nil : dropE [] env = env := rfl
@[simp] theorem dropE_cons {is : List Nat} : dropE (i :: is) env = dropE is (drop1 env i) := rfl
@[simp] theorem drop1_ : drop1 env i = match env[i]? with | some (some (d, _)) => env.set i (some (d, false)) | _ => env := rfl
@[simp] theorem wipeE_nil : wipeE env [] = env := rfl
@[simp] theorem wipeE_cons {is : List Nat} : wipeE env (i :: is) = (wipeE env is).set i none := rfl
@[simp] theorem startE_ {n : Nat} {ds : List PyData} : startE n ds = ds.map (fun d => some (d, false)) ++ List.replicate (n - ds.length) none := rfl
end
section
variable {i j : Int} {ds es : List PyData} {x y : PyData}
@[simp] theorem oI_ {C : Int → Int → Bool} {h : Int → Int → Int} : oI C h (.int i) (.int j) = if C i j then some (.int (h i j)) else none := rfl
@[simp] theorem oB_ {h : Int → Int → Bool} : oB h (.int i) (.int j) = some (.bool (h i j)) := rfl
@[simp] theorem oAdd_ : oAdd (.int i) (.int j) = some (.int (i + j)) := rfl
@[simp] theorem oAddL_ : oAdd (.list ds) (.list es) = if ds.length + es.length ≤ line24 then some (.list (ds ++ es)) else none := by
  unfold oAdd oOr oCat
  rfl
@[simp] theorem oSub_ : oSub (.int i) (.int j) = some (.int (i - j)) := rfl
@[simp] theorem oMul_ : oMul (.int i) (.int j) = if mulOk i j then some (.int (i * j)) else none := by
  unfold oMul oOr oRep
  simp only [oI_]
  split <;> rfl
@[simp] theorem oMulL_ : oMul (.list ds) (.int j) = if j < 1000000 ∧ ds.length * j.toNat ≤ line24 ∧ -1000000 ≤ j then some (.list (List.replicate j.toNat ds).flatten) else none := by
  unfold oMul oOr oRep
  rfl
@[simp] theorem oDivZ_ : oDivZ (.int i) (.int j) = if j = 0 then none else some (.int (i.fdiv j)) := by
  unfold oDivZ
  by_cases h : j = 0 <;> simp [h]
@[simp] theorem oMod_ : oMod (.int i) (.int j) = if j = 0 then none else some (.int (i.fmod j)) := by
  unfold oMod
  by_cases h : j = 0 <;> simp [h]
@[simp] theorem oPow_ : oPow (.int i) (.int j) = if 0 ≤ j ∧ j ≤ 1000000 ∧ i.natAbs < 2 ^ 64 then some (.int (i ^ j.toNat)) else none := by
  unfold oPow
  simp only [oI_, decide_eq_true_eq]
@[simp] theorem oLt_ : oLt (.int i) (.int j) = some (.bool (decide (i < j))) := rfl
@[simp] theorem oLe_ : oLe (.int i) (.int j) = some (.bool (decide (i ≤ j))) := rfl
@[simp] theorem oGt_ : oGt (.int i) (.int j) = some (.bool (decide (j < i))) := rfl
@[simp] theorem oGe_ : oGe (.int i) (.int j) = some (.bool (decide (j ≤ i))) := rfl
@[simp] theorem oNeg_ : oNeg (.int i) = some (.int (-i)) := rfl
@[simp] theorem oNot_ {b : Bool} : oNot (.bool b) = some (.bool (!b)) := rfl
@[simp] theorem oIsN_ {b : Bool} : oIsN b x .none = some (.bool ((match x with | .none => true | _ => false) != b)) := rfl
theorem shaped_int : SeqAt.shaped (.int i) = true := by simp [SeqAt.shaped, PyData.canLay0, PyData.depth]
theorem eqv_int : PyData.eqv (.int i) (.int j) = decide (i = j) := by
  rw [PyData.eqv]
  by_cases h : i = j <;> simp [h]
@[simp] theorem oEq_int : oEq (.int i) (.int j) = some (.bool (decide (i = j))) := by
  unfold oEq
  rw [if_pos ⟨shaped_int, shaped_int⟩, eqv_int]
@[simp] theorem oNe_int : oNe (.int i) (.int j) = some (.bool (!decide (i = j))) := by
  unfold oNe
  rw [if_pos ⟨shaped_int, shaped_int⟩, eqv_int]
@[simp] theorem oAbs_ : oAbs [.int i] = some (.int (if i < 0 then -i else i)) := rfl
@[simp] theorem oInt_ : oInt [.int i] = some (.int i) := rfl
@[simp] theorem oIntb_ {b : Bool} : oInt [.bool b] = some (.int (if b then 1 else 0)) := rfl
@[simp] theorem oMax2_ : oMax2 [.int i, .int j] = some (.int (if j > i then j else i)) := rfl
@[simp] theorem oMin2_ : oMin2 [.int i, .int j] = some (.int (if j < i then j else i)) := rfl
@[simp] theorem oLen_ : oLen (.list ds) = some (.int (ds.length : Int)) := rfl
@[simp] theorem oLenT_ : oLen (.tuple ds) = some (.int (ds.length : Int)) := rfl
@[simp] theorem oIx_ : oIx (.list ds) (.int i) = atI ds i := rfl
@[simp] theorem oBits_ : oBits (.int i) = some (.int ((Builtin.Int.intBits i : Nat) : Int)) := rfl
@[simp] theorem truI_ : tru (.int i) = some (i != 0) := rfl
end

/-! ### lists of ils -/
abbrev ils (ns : List Int) : PyData := .list (ns.map PyData.int)
@[simp] theorem ints?_map : ∀ ns : List Int, ints? (ns.map PyData.int) = some ns
  | [] => rfl
  | a :: r => by simp [ints?, ints?_map r]
theorem ints?_eq : ∀ {ds : List PyData} {ns : List Int}, ints? ds = some ns → ds = ns.map PyData.int
  | [], ns, h => by cases h; rfl
  | .int b :: r, ns, h => by
    obtain ⟨bs, h1, rfl⟩ := Option.map_eq_some_iff.mp h
    rw [ints?_eq h1]; rfl
  | .none :: r, _, h => by cases h
  | .bool _ :: r, _, h => by cases h
  | .str _ :: r, _, h => by cases h
  | .list _ :: r, _, h => by cases h
  | .tuple _ :: r, _, h => by cases h
  | .dict _ :: r, _, h => by cases h
def dInts : PyData → Option (List Int)
  | .list ds => ints? ds
  | _ => none
@[simp] theorem dInts_ {ns : List Int} : dInts (ils ns) = some ns := ints?_map ns
theorem dInts_eq {d : PyData} {ns : List Int} (h : dInts d = some ns) : d = ils ns := by
  unfold dInts at h
  split at h
  · rw [ints?_eq h]
  · cases h
def dInt : PyData → Option Int
  | .int i => some i
  | _ => none
@[simp] theorem dInt_ {i : Int} : dInt (.int i) = some i := rfl
theorem dInt_eq {d : PyData} {i : Int} (h : dInt d = some i) : d = .int i := by
  unfold dInt at h
  split at h
  · cases h; rfl
  · cases h
def dAny : PyData → Option PyData := some
@[simp] theorem dAny_ {d : PyData} : dAny d = some d := rfl
/-- promises of one, two, three arguments -/
def g1 {α : Type} (da : PyData → Option α) (f : α → Option (PyData × Bool)) : GD := fun ds => match ds with
  | [a] => (da a).bind f
  | _ => none
def g2 {α β : Type} (da : PyData → Option α) (db : PyData → Option β) (f : α → β → Option (PyData × Bool)) : GD := fun ds => match ds with
  | [a, b] => (da a).bind fun x => (db b).bind fun y => f x y
  | _ => none
def g3 {α β γ : Type} (da : PyData → Option α) (db : PyData → Option β) (dc : PyData → Option γ) (f : α → β → γ → Option (PyData × Bool)) : GD := fun ds => match ds with
  | [a, b, c] => (da a).bind fun x => (db b).bind fun y => (dc c).bind fun z => f x y z
  | _ => none
section
variable {α β γ : Type} {da : PyData → Option α} {db : PyData → Option β} {dc : PyData → Option γ} {f1 : α → Option (PyData × Bool)} {f2 : α → β → Option (PyData × Bool)} {f3 : α → β → γ → Option (PyData × Bool)} {ds : List PyData} {r : PyData × Bool} {a b c : PyData}
@[simp] theorem g1_ : g1 da f1 [a] = (da a).bind f1 := rfl
@[simp] theorem g2_ : g2 da db f2 [a, b] = (da a).bind fun x => (db b).bind fun y => f2 x y := rfl
@[simp] theorem g3_ : g3 da db dc f3 [a, b, c] = (da a).bind fun x => (db b).bind fun y => (dc c).bind fun z => f3 x y z := rfl
theorem g1_inv (h : g1 da f1 ds = some r) : ∃ a x, ds = [a] ∧ da a = some x ∧ f1 x = some r := by
  unfold g1 at h
  split at h
  · obtain ⟨x, h1, h2⟩ := Option.bind_eq_some_iff.mp h
    exact ⟨_, x, rfl, h1, h2⟩
  · cases h
theorem g2_inv (h : g2 da db f2 ds = some r) : ∃ a b x y, ds = [a, b] ∧ da a = some x ∧ db b = some y ∧ f2 x y = some r := by
  unfold g2 at h
  split at h
  · obtain ⟨x, h1, h⟩ := Option.bind_eq_some_iff.mp h
    obtain ⟨y, h2, h⟩ := Option.bind_eq_some_iff.mp h
    exact ⟨_, _, x, y, rfl, h1, h2, h⟩
  · cases h
theorem g3_inv (h : g3 da db dc f3 ds = some r) : ∃ a b c x y z, ds = [a, b, c] ∧ da a = some x ∧ db b = some y ∧ dc c = some z ∧ f3 x y z = some r := by
  unfold g3 at h
  split at h
  · obtain ⟨x, h1, h⟩ := Option.bind_eq_some_iff.mp h
    obtain ⟨y, h2, h⟩ := Option.bind_eq_some_iff.mp h
    obtain ⟨z, h3, h⟩ := Option.bind_eq_some_iff.mp h
    exact ⟨_, _, _, x, y, z, rfl, h1, h2, h3, h⟩
  · cases h
theorem g1_len (ds : List PyData) (r : PyData × Bool) (h : g1 da f1 ds = some r) : ds.length = 1 := by
  obtain ⟨_, _, rfl, _⟩ := g1_inv h; rfl
theorem g2_len (ds : List PyData) (r : PyData × Bool) (h : g2 da db f2 ds = some r) : ds.length = 2 := by
  obtain ⟨_, _, _, _, rfl, _⟩ := g2_inv h; rfl
theorem g3_len (ds : List PyData) (r : PyData × Bool) (h : g3 da db dc f3 ds = some r) : ds.length = 3 := by
  obtain ⟨_, _, _, _, _, _, rfl, _⟩ := g3_inv h; rfl
end

/-! ### items -/
theorem ixN_nat {n k : Nat} (h : k < n) : ixN n (k : Int) = some k := by
  unfold ixN
  rw [if_pos (by omega), if_pos (by omega)]
  rfl
theorem atI_ints {ns : List Int} {k : Nat} (h : k < ns.length) : atI (ns.map PyData.int) (k : Int) = some (.int (ns.getD k 0)) := by
  unfold atI
  rw [List.length_map, ixN_nat h]
  simp [List.getD_eq_getElem?_getD, List.getElem?_eq_getElem h]
theorem atI_list {α : Type} {ds : List α} {k : Nat} {d : α} (h : ds[k]? = some d) : atI ds (k : Int) = some d := atI_nat h
theorem atI_neg {ns : List Int} (h : ns ≠ []) : atI (ns.map PyData.int) (-1) = some (.int (ns.getLastD 0)) := by
  have hl : 0 < ns.length := List.length_pos_iff.mpr h
  unfold atI ixN
  rw [List.length_map, if_neg (by omega), if_pos (by omega)]
  have e : (-1 + (ns.length : Int)).toNat = ns.length - 1 := by omega
  simp only [Option.bind_some, e, List.getElem?_map]
  rw [List.getLastD_eq_getLast?, List.getLast?_eq_getElem?, List.getElem?_eq_getElem (by omega)]
  rfl
@[simp] theorem rangeD_length {lo : Int} {n : Nat} : (rangeD lo n).length = n := by simp [rangeD]
theorem rangeD_get {lo : Int} {n i : Nat} {d : PyData} (h : (rangeD lo n)[i]? = some d) : i < n ∧ d = .int (lo + i) := by
  unfold rangeD at h
  rw [List.getElem?_map] at h
  obtain ⟨k, h1, rfl⟩ := Option.map_eq_some_iff.mp h
  obtain ⟨hl, h2⟩ := List.getElem?_eq_some_iff.mp h1
  rw [List.getElem_range] at h2
  subst h2
  rw [List.length_range] at hl
  exact ⟨hl, rfl⟩
/-- a comprehension whose every turn is told -/
theorem compL_map {bd : PyData → PEnv → Option PEnv} {ft : PEnv → Option Bool} {fe : PEnv → Option PyData} {env : PEnv} (p : PyData → Bool) (y : PyData → PyData) : ∀ (ds : List PyData),
    (∀ d ∈ ds, ∃ env1, bd d env = some env1 ∧ ft env1 = some (p d) ∧ (p d = true → fe env1 = some (y d))) → compL bd ft fe env ds = some ((ds.filter p).map y)
  | [], _ => rfl
  | d :: ds, h => by
    obtain ⟨env1, h1, h2, h3⟩ := h d List.mem_cons_self
    have ih := compL_map p y ds fun e he => h e (List.mem_cons_of_mem _ he)
    unfold compL
    rw [h1, Option.bind_some, h2, Option.bind_some, ih]
    cases hp : p d with
    | true => simp [h3 hp, hp]
    | false => simp [hp]
theorem compL_all {bd : PyData → PEnv → Option PEnv} {fe : PEnv → Option PyData} {env : PEnv} (y : PyData → PyData) (ds : List PyData) (h : ∀ d ∈ ds, ∃ env1, bd d env = some env1 ∧ fe env1 = some (y d)) :
    compL bd fYes fe env ds = some (ds.map y) := by
  rw [compL_map (fun _ => true) y ds fun d hd => by
    obtain ⟨e, h1, h2⟩ := h d hd
    exact ⟨e, h1, rfl, fun _ => h2⟩]
  rw [List.filter_eq_self.mpr fun _ _ => rfl]
end PD

set_option Elab.async false
set_option linter.all false
set_option maxRecDepth 100000
set_option maxHeartbeats 4000000
set_option autoImplicit false
namespace PD
variable {K : PySem.W.Frag}
open PySem PySem.Spec L2
open PyProof.Rows hiding St

/-! ### a fresh list of whole numbers leaves the base as it was -/
theorem daAll_whole {H H' : Hp} : ∀ {ds : List PyData} {xs : List V} {ns : List Int}, ints? ds = some ns → DaAll K H xs ds → DaAll K H' xs ds
  | [], _, _, _, .nil => .nil
  | .int b :: r, _, ns, h, .cons a t => by
    obtain ⟨bs, h1, _⟩ := Option.map_eq_some_iff.mp h
    cases a
    exact .cons (.int b) (daAll_whole h1 t)
  | .none :: _, _, _, h, _ => by cases h
  | .bool _ :: _, _, _, h, _ => by cases h
  | .str _ :: _, _, _, h, _ => by cases h
  | .list _ :: _, _, _, h, _ => by cases h
  | .tuple _ :: _, _, _, h, _ => by cases h
  | .dict _ :: _, _, _, h, _ => by cases h
def fWhole (is : List Nat) (g : PEnv → Option (List PyData)) : PEnv → Option (List PyData) := fun env => (g (dropE is env)).bind fun ds => (ints? ds).map fun _ => ds
@[simp] theorem fWhole_ {is : List Nat} {g : PEnv → Option (List PyData)} {env : PEnv} : fWhole is g env = (g (dropE is env)).bind fun ds => (ints? ds).map fun _ => ds := rfl
section
variable {X : Cx} {pos : Pos} {e : Expr} {es : List Expr} {te tb : TE} {t : TA} {f : PEnv → Option PyData} {g : PEnv → Option (List PyData)} {gs : PEnv → Option (List PyData)}
theorem spF_whole (is : List Nat) (h : SpF K te g) : SpF K te (fWhole is g) := fun H0 Hb0 env σ H Hb ds rl e Q q => by
  unfold fWhole at e
  obtain ⟨es, e1, e⟩ := Option.bind_eq_some_iff.mp e
  obtain ⟨ns, e2, e⟩ := Option.map_eq_some_iff.mp e
  subst e
  obtain ⟨Hb', rl'⟩ := Rel.dropE is rl
  exact h H0 Hb0 _ σ H Hb' es rl' e1 _ fun p xs H1 Hb1 g1 h0 h1 h2 h3 => q p xs H1 Hb ⟨g1.ex, Same.refl _, rl.gr.sub.trans g1.ex, fun _ _ z => .inl z⟩ h0 h1 (rl.gr.sub.free h0) (daAll_whole e2 h3)
theorem jf_whole (is : List Nat) (h : JF X K e te g) : JF X K e te (fWhole is g) := ⟨h.pe, spF_whole is h.sp⟩
/-- a, b = b, a fresh list: the list of b is moved -/
def pMove (i j : Nat) (g : PEnv → Option (List PyData)) : PTS := fun E env => ∃ es ds, env[j]? = some (some (.list es, true)) ∧ g env = some ds ∧ E.nx ((env.set j (some (.list ds, true))).set i (some (.list es, true)))
@[simp] theorem pMove_ {E : PEnds} {env : PEnv} {i j : Nat} : pMove i j g E env = ∃ es ds, env[j]? = some (some (.list es, true)) ∧ g env = some ds ∧ E.nx ((env.set j (some (.list ds, true))).set i (some (.list es, true))) := rfl
theorem js_move {i j : Nat} {x y : Str} {a b : Expr} {px py pt : Pos} {kt k2 : Nat} {pt2 : Pos} {fo : PEnv → Option PyData} (hc : X.calm = true) (hN : X.N.Nodup) (hi : X.N[i]? = some x) (hj : X.N[j]? = some y) (hij : i ≠ j)
    (hx : X.env.scope.names.lookup x = some .local) (hy : X.env.scope.names.lookup y = some .local) (ha : JR X K a (tVar j) fo) (hb : JF X K b tb g)
    (hw : swappedStores [.Tuple [.Name x px, .Name y py] kt pt] (.Tuple [a, b] k2 pt2) X.env = pure (some [x, y]))
    (hs : swapsWithSole [.Tuple [.Name x px, .Name y py] kt pt] (.Tuple [a, b] k2 pt2) pos.line X.env = pure false := by rfl)
    (s1 : starEach [a, b] X.env = (false, eval a X.env) :: starEach [b] X.env := by rfl) (s2 : starEach [b] X.env = (false, eval b X.env) :: starEach [] X.env := by rfl) :
    JS X K (.Assign [.Tuple [.Name x px, .Name y py] kt pt] (.Tuple [a, b] k2 pt2) pos) (tPar i j (tCons (tVar j) (tCons tb tNil))) (pMove i j g) := ⟨ps_par hc hN hi hj hij hx hy (pa_cons ha.pe (pa_cons hb.pe pa_nil s2) s1) hw hs, fun H0 Hb0 E D ok env σ H Hb rl ⟨es, ds, e1, e2, q⟩ => by
  obtain ⟨w, hw1, hown⟩ := rl.slot j _ true e1
  refine ⟨w, hw1, ?_⟩
  refine hb.sp H0 Hb0 env σ H Hb ds rl e2 _ fun p xs H1 Hb1 g1 h0 h1 h2 h3 => ⟨w, V.ref p, rfl, ?_⟩
  have rl1 := rl.grow g1
  have new : ∀ l dl, env[l]? = some (some (dl, true)) → σ[l]? ≠ some (some (V.ref p)) := fun l dl el sl => by
    obtain ⟨u, u1, p', xs', ds', rfl, _, k1, _⟩ := rl.slot l dl true el
    rw [u1] at sl
    cases sl
    rw [h0] at k1
    cases k1
  have rl2 := rl1.set j (v := .ref p) (d := .list ds) (b := true) ⟨p, xs, ds, rfl, rfl, h1, h2, rl.gr.free h0, h3⟩ fun _ l dl _ el => new l dl el
  have rl3 := rl2.set i (v := w) (d := .list es) (b := true) (hown.grow g1) fun _ l dl ne el sl => by
    rcases get_set el with ⟨rfl, e'⟩ | ⟨nj, e'⟩
    · have hl : j < σ.length := by
        rcases Nat.lt_or_ge j σ.length with z | z
        · exact z
        · rw [List.getElem?_eq_none z] at hw1; cases hw1
      rw [List.getElem?_set_self hl] at sl
      cases sl
      exact new j _ e1 hw1
    · rw [List.getElem?_set_ne nj] at sl
      exact rl.dist l j _ _ w (fun z => nj z.symm) e' e1 sl hw1
  rw [List.set_comm _ _ hij]
  exact ok.nx _ _ H1 Hb1 rl3 q⟩
end

/-! ### a list of fresh lists, tested, and then lengthened one by one -/
section
variable {H0 Hb0 H Hb : Hp} {env : PEnv} {σ : L2.St}
theorem Rel.junk (r : Rel K H0 Hb0 env σ H Hb) (i : Nat) (x : Option V) : Rel K H0 Hb0 (env.set i none) (σ.set i x) H Hb where
  len := by rw [List.length_set, List.length_set]; exact r.len
  gr := r.gr
  slot := fun j d' b' e => by
    rcases get_set e with ⟨rfl, e'⟩ | ⟨ne, e'⟩
    · cases e'
    · obtain ⟨w, h1, h2⟩ := r.slot j d' b' e'
      exact ⟨w, by rw [List.getElem?_set_ne ne]; exact h1, h2⟩
  dist := fun j k dj dk w ne ej ek sj sk => by
    rcases get_set ej with ⟨rfl, ej'⟩ | ⟨nj, ej'⟩
    · cases ej'
    · rcases get_set ek with ⟨rfl, ek'⟩ | ⟨nk, ek'⟩
      · cases ek'
      · rw [List.getElem?_set_ne nj] at sj
        rw [List.getElem?_set_ne nk] at sk
        exact r.dist j k dj dk w ne ej' ek' sj sk
theorem Rel.forget (r : Rel K H0 Hb0 env σ H Hb) (i : Nat) : Rel K H0 Hb0 (env.set i none) σ H Hb where
  len := by rw [List.length_set]; exact r.len
  gr := r.gr
  slot := fun j d' b' e => by
    rcases get_set e with ⟨rfl, e'⟩ | ⟨ne, e'⟩
    · cases e'
    · exact r.slot j d' b' e'
  dist := fun j k dj dk w ne ej ek sj sk => by
    rcases get_set ej with ⟨rfl, ej'⟩ | ⟨nj, ej'⟩
    · cases ej'
    · rcases get_set ek with ⟨rfl, ek'⟩ | ⟨nk, ek'⟩
      · cases ek'
      · exact r.dist j k dj dk w ne ej' ek' sj sk
/-- the base may be told anew where every slot bears it -/
theorem Rel.onto {H' : Hp} (r : Rel K H0 Hb0 env σ H Hb) (e : Same H H') : Rel K H0 Hb0 env σ H' Hb := r.grow ⟨e, Same.refl _, r.gr.sub.trans e, fun _ _ z => .inl z⟩
end
def SpY (K : PySem.W.Frag) (t : TA) (f : PEnv → Option (List PyData)) : Prop := ∀ H0 Hb0 env σ H Hb ds, Rel K H0 Hb0 env σ H Hb → f env = some ds → ∀ Q : List V → Hp → Prop,
  (∀ vs H' Hb', Grow H Hb H' Hb' → DaAll K Hb' vs ds → (∀ v ∈ vs, ∃ p xs, v = .ref p ∧ H p = none ∧ H' p = some (.lst xs) ∧ xs.length < 1000000) → Q vs H') → t σ H Q
def fShort (g : PEnv → Option (List PyData)) : PEnv → Option (List PyData) := fun env => (g env).bind fun ds => if ds.length < 1000000 then some ds else none
@[simp] theorem fShort_ {g : PEnv → Option (List PyData)} {env : PEnv} : fShort g env = (g env).bind fun ds => if ds.length < 1000000 then some ds else none := rfl
section
variable {X : Cx} {te : TE} {t : TA} {g gs : PEnv → Option (List PyData)} {fA fB : PEnv → Option Bool} {tA tB : TT} {ra rb : TS} {st1 st2 st3 st4 : Stmt} {i j : Nat} {n : Int}
theorem spY_nil : SpY K tNil fNil := fun H0 Hb0 env σ H Hb ds rl e Q q => by
  cases e
  exact q [] H Hb rl.refl .nil (fun _ h => nomatch h)
theorem spY_cons (h : SpF K te g) (hr : SpY K t gs) : SpY K (tCons te t) (fCons (fL (fShort g)) gs) := fun H0 Hb0 env σ H Hb ds rl e Q q => by
  unfold fCons at e
  obtain ⟨x, e1, e⟩ := Option.bind_eq_some_iff.mp e
  obtain ⟨es, e2, e⟩ := Option.map_eq_some_iff.mp e
  subst e
  unfold fL fShort at e1
  obtain ⟨d, e3, e1⟩ := Option.map_eq_some_iff.mp e1
  subst e1
  obtain ⟨d', e4, e3⟩ := Option.bind_eq_some_iff.mp e3
  split at e3
  · rename_i hl
    cases e3
    refine h H0 Hb0 env σ H Hb d rl e4 _ fun p xs H1 Hb1 g1 h0 h1 h2 h3 => ?_
    have g2 := g1.absorb h0 h1 h2
    refine hr H0 Hb0 env σ H1 _ es (rl.grow g2) e2 _ fun vs H2 Hb2 g3 h4 h5 => q _ H2 Hb2 (g2.trans g3) (.cons (da_mono g3.exb _ _ (.lst (.new upd_same) (daAll_mono (Same.upd h2) _ _ h3))) h4) fun v hv => ?_
    rcases List.mem_cons.mp hv with rfl | hv
    · exact ⟨p, xs, rfl, h0, g3.ex _ _ h1, by rw [daAll_len h3]; exact hl⟩
    · obtain ⟨p', xs', e, k1, k2, k3⟩ := h5 v hv
      exact ⟨p', xs', e, g2.ex.free k1, k2, k3⟩
  · cases e3
def pYoung (i j : Nat) (g : PEnv → Option (List PyData)) (fA fB : PEnv → Option Bool) : PTS := fun E env => i < env.length ∧ j < env.length ∧ ∃ ds, g env = some ds ∧ ds.length ≤ 1000 ∧ fA (env.set i (some (.list ds, false))) = some false ∧ fB (env.set i (some (.list ds, false))) = some false ∧ E.nx ((env.set i none).set j none)
@[simp] theorem pYoung_ {E : PEnds} {env : PEnv} : pYoung i j g fA fB E env = (i < env.length ∧ j < env.length ∧ ∃ ds, g env = some ds ∧ ds.length ≤ 1000 ∧ fA (env.set i (some (.list ds, false))) = some false ∧ fB (env.set i (some (.list ds, false))) = some false ∧ E.nx ((env.set i none).set j none)) := rfl
theorem spS_young (hg : SpY K t g) (hA : SpT K tA fA) (hB : SpT K tB fB) :
    SpS K (tSeq (tAsg (tLst t) (gName i)) (tSeq (tIfS tA ra tNext) (tSeq (tIfS tB rb tNext) (tFor (iList K (tVar i)) (gName j) (tDrop (tBM K "list" rAppend (tVar j) (tCons (tC (.int n)) tNil))))))) (pYoung i j g fA fB) := fun H0 Hb0 E D ok env σ H Hb rl ⟨hi0, hj0, ds, e1, hl, eA, eB, q⟩ => by
  refine hg H0 Hb0 env σ H Hb ds rl e1 _ fun vs H1 Hb1 g1 h1 h2 => ⟨small1000' (by rw [daAll_len h1]; exact hl), fun p hp => ?_⟩
  have g2 : Grow H Hb (upd H1 p (.lst vs)) (upd Hb1 p (.lst vs)) := g1.trans (Grow.alloc g1.sub hp)
  have rl2 := (rl.grow g2).setV i (v := .ref p) (d := .list ds) (.lst (.new upd_same) (daAll_mono (Same.upd (g1.sub.free hp)) _ _ h1))
  refine hA H0 Hb0 _ _ _ _ false rl2 eA _ fun H3 Hb3 g3 => ?_
  rw [if_neg Bool.false_ne_true]
  refine hB H0 Hb0 _ _ _ _ false (rl2.grow g3) eB _ fun H4 Hb4 g4 => ?_
  rw [if_neg Bool.false_ne_true]
  have hin : i < σ.length ∧ j < σ.length := by rw [rl.len]; exact ⟨hi0, hj0⟩
  refine ⟨V.ref p, List.getElem?_set_self hin.1, ?_⟩
  have p4 : H4 p = some (.lst vs) := (g3.trans g4).ex _ _ upd_same
  refine ⟨p, rfl, ⟨vs, .inl (.inl p4)⟩, ?_⟩
  have s4 : Same H1 H4 := (Same.upd hp).trans (g3.trans g4).ex
  refine ⟨fun k m σ' H' => m = vs.length - k ∧ k ≤ vs.length ∧ (σ' = σ.set i (some (V.ref p)) ∨ ∃ y, σ' = (σ.set i (some (V.ref p))).set j (some y)) ∧ Same H H' ∧ H' p = some (.lst vs) ∧ ∀ v ∈ vs, ∃ a xs, v = V.ref a ∧ H a = none ∧ a ≠ p ∧ H' a = some (.lst xs) ∧ xs.length < 1000000 + k,
    ⟨vs.length, rfl, Nat.zero_le _, .inl rfl, g2.ex.trans (g3.trans g4).ex, p4, fun v hv => ?_⟩, fun k m σ' H' ⟨hm, hk, hs, hsame, hp', hrows⟩ => ?_⟩
  · obtain ⟨a, xs, ev, k1, k2, k3⟩ := h2 v hv
    have hne : a ≠ p := fun z => by
      subst z
      rw [hp] at k2
      cases k2
    exact ⟨a, xs, ev, k1, hne, s4 _ _ k2, k3⟩
  · have hlen : σ'.length = σ.length := by
      rcases hs with rfl | ⟨y, rfl⟩
      · rw [List.length_set]
      · rw [List.length_set, List.length_set]
    by_cases hlt : k < vs.length
    · refine .inr ⟨⟨vs, vs[k], .inl (.inl hp'), List.getElem?_eq_getElem hlt⟩, fun σ' H' => (∃ y, σ' = (σ.set i (some (V.ref p))).set j (some y)) ∧ Same H H' ∧ H' p = some (.lst vs) ∧ ∀ v ∈ vs, ∃ a xs, v = V.ref a ∧ H a = none ∧ a ≠ p ∧ H' a = some (.lst xs) ∧ xs.length < 1000000 + (k + 1),
        fun σ' H' ⟨n1, n2, n3, n4⟩ => ⟨vs.length - (k + 1), by omega, rfl, hlt, .inr n1, n2, n3, n4⟩, fun x H'' ⟨eH, hy⟩ => ?_⟩
      subst eH
      have ex : vs[k] = x := Option.some.inj ((List.getElem?_eq_getElem hlt).symm.trans (hy vs (.inl (.inl hp'))))
      subst ex
      obtain ⟨a, xs, ev, k1, k2, k3, k4⟩ := hrows vs[k] (List.getElem_mem hlt)
      rw [ev]
      refine ⟨V.ref a, List.getElem?_set_self (by rw [hlen]; exact hin.2), .inl ⟨rfl, _, .inl (.inl k3)⟩, ?_⟩
      refine ⟨a, xs, .int n, rfl, rfl, k3, ?_, ?_, ?_, ?_, ?_⟩
      · rw [line24_eq]
        show xs.length < 16777216
        have := daAll_len h1
        omega
      · rcases hs with rfl | ⟨y, rfl⟩
        · exact ⟨_, rfl⟩
        · exact ⟨_, List.set_set ..⟩
      · exact fun b u e => by
          rw [upd_ne (ne_of_none e k1)]
          exact hsame b u e
      · rw [upd_ne fun z => k2 z.symm]; exact hp'
      · intro v hv
        obtain ⟨b, ys, eb, q1, q2, q3, q4⟩ := hrows v hv
        by_cases hab : b = a
        · subst hab
          rw [k3] at q3
          cases q3
          exact ⟨b, _, eb, q1, q2, upd_same, by rw [List.length_append]; show xs.length + 1 < _; omega⟩
        · exact ⟨b, ys, eb, q1, q2, by rw [upd_ne hab]; exact q3, by omega⟩
    · refine .inl ⟨⟨vs, .inl (.inl hp'), Nat.le_of_not_lt hlt⟩, ?_⟩
      have rlH := rl.onto hsame
      rcases hs with rfl | ⟨y, rfl⟩
      · exact ok.nx _ _ _ _ ((rlH.junk i _).forget j) q
      · exact ok.nx _ _ _ _ ((rlH.junk i _).junk j _) q
structure JY (X : Cx) (K : PySem.W.Frag) (es : List Expr) (t : TA) (f : PEnv → Option (List PyData)) : Prop where
  pa : PA X es t
  sp : SpY K t f
theorem jy_nil : JY X K [] tNil fNil := ⟨pa_nil, spY_nil⟩
theorem jy_cons {e : Expr} {es : List Expr} (ha : JF X K e te g) (hr : JY X K es t gs) (hs : starEach (e :: es) X.env = (false, eval e X.env) :: starEach es X.env := by rfl) : JY X K (e :: es) (tCons te t) (fCons (fL (fShort g)) gs) := ⟨pa_cons ha.pe hr.pa hs, spY_cons ha.sp hr.sp⟩
theorem jss_young {x : Str} {es : List Expr} {cA cB : Expr} {bA bB : List Stmt} {pos pos' posA posB : Pos} {e1 : Pos} {TA TB T4 : PTS} (hN : X.N.Nodup) (hy : JY X K es t g)
    (hA : JT X K cA tA fA) (hra : JSs X K bA ra TA) (hB : JT X K cB tB fB) (hrb : JSs X K bB rb TB) (h4 : JS X K st4 (tFor (iList K (tVar i)) (gName j) (tDrop (tBM K "list" rAppend (tVar j) (tCons (tC (.int n)) tNil)))) T4)
    (hi : X.N[i]? = some x := by rfl) (hx : Loc X.env.scope x := by first | exact Or.inl rfl | exact Or.inr rfl) (hs : swapsWith (.List es e1) (some (.Name x pos')) pos.line X.env = pure false := by rfl)
    (hf : X.fn x = true ∨ X.env.scope.names.lookup x = some .local := by first | exact .inl rfl | exact .inr rfl) :
    JSs X K [.Assign [.Name x pos'] (.List es e1) pos, .If cA bA [] posA, .If cB bB [] posB, st4] (tSeq (tAsg (tLst t) (gName i)) (tSeq (tIfS tA ra tNext) (tSeq (tIfS tB rb tNext) (tFor (iList K (tVar i)) (gName j) (tDrop (tBM K "list" rAppend (tVar j) (tCons (tC (.int n)) tNil))))))) (pYoung i j g fA fB) :=
  ⟨pss_cons (ps_set hN hi hx (pe_lst hy.pa) hs hf) (pss_cons (js_if hA hra jss_nil).ps (pss_cons (js_if hB hrb jss_nil).ps (pss_one h4.ps))), spS_young hy.sp hA.sp hB.sp⟩
end
end PD

set_option Elab.async false
set_option linter.all false
set_option maxRecDepth 100000
set_option maxHeartbeats 4000000
set_option autoImplicit false
namespace PD
open PySem PySem.Spec L2
open PyProof.Rows hiding St
/-! ### equality of lists of whole numbers, and of lists of them -/
theorem lay_ints : ∀ p : List Int, PyData.canLayAll0 (p.map PyData.int) = true ∧ PyData.depthAll (p.map PyData.int) = 0
  | [] => ⟨rfl, rfl⟩
  | a :: p => by
    obtain ⟨h1, h2⟩ := lay_ints p
    rw [List.map_cons]
    constructor
    · simp only [PyData.canLayAll0, PyData.canLay0, h1, Bool.and_self]
    · simp only [PyData.depthAll, PyData.depth, h2]; rfl
theorem eqvAll_ints : ∀ p q : List Int, PyData.eqvAll (p.map PyData.int) (q.map PyData.int) = decide (p = q)
  | [], [] => by simp [PyData.eqvAll]
  | [], b :: q => by simp [PyData.eqvAll]
  | a :: p, [] => by simp [PyData.eqvAll]
  | a :: p, b :: q => by
    rw [List.map_cons, List.map_cons, PyData.eqvAll, eqvAll_ints p q, eqv_int]
    simp
theorem lay_ils (p : List Int) : (ils p).canLay0 = true ∧ (ils p).depth = 1 := by
  obtain ⟨h1, h2⟩ := lay_ints p
  constructor
  · simp only [ils, PyData.canLay0, h1]
  · simp only [ils, PyData.depth, h2]
theorem shaped_ils {p : List Int} : SeqAt.shaped (ils p) = true := by
  obtain ⟨h1, h2⟩ := lay_ils p
  simp [SeqAt.shaped, h1, h2]
theorem eqv_ils {p q : List Int} : PyData.eqv (ils p) (ils q) = decide (p = q) := by
  rw [ils, ils, PyData.eqv, eqvAll_ints]
theorem shaped_none : SeqAt.shaped .none = true := by simp [SeqAt.shaped, PyData.canLay0, PyData.depth]
@[simp] theorem oEq_ils {p q : List Int} : oEq (ils p) (ils q) = some (.bool (decide (p = q))) := by
  unfold oEq
  rw [if_pos ⟨shaped_ils, shaped_ils⟩, eqv_ils]
@[simp] theorem oNe_ils {p q : List Int} : oNe (ils p) (ils q) = some (.bool (!decide (p = q))) := by
  unfold oNe
  rw [if_pos ⟨shaped_ils, shaped_ils⟩, eqv_ils]
@[simp] theorem oEq_nil {p : List Int} : oEq (ils p) (.list []) = some (.bool (decide (p = []))) := oEq_ils (q := [])
@[simp] theorem oNe_nil {p : List Int} : oNe (ils p) (.list []) = some (.bool (!decide (p = []))) := oNe_ils (q := [])
@[simp] theorem oNe_none : oNe .none .none = some (.bool false) := by
  unfold oNe
  rw [if_pos ⟨shaped_none, shaped_none⟩]
  simp [PyData.eqv]
@[simp] theorem oEq_none : oEq .none .none = some (.bool true) := by
  unfold oEq
  rw [if_pos ⟨shaped_none, shaped_none⟩]
  simp [PyData.eqv]
@[simp] theorem oNe_none_ils {p : List Int} : oNe .none (ils p) = some (.bool true) := by
  unfold oNe
  rw [if_pos ⟨shaped_none, shaped_ils⟩]
  simp [PyData.eqv]
@[simp] theorem oNe_ils_none {p : List Int} : oNe (ils p) .none = some (.bool true) := by
  unfold oNe
  rw [if_pos ⟨shaped_ils, shaped_none⟩]
  simp [PyData.eqv]
theorem lay_rows : ∀ ps : List (List Int), PyData.canLayAll0 (ps.map fun p => ils p) = true ∧ PyData.depthAll (ps.map fun p => ils p) ≤ 1
  | [] => ⟨rfl, Nat.zero_le _⟩
  | p :: ps => by
    obtain ⟨h1, h2⟩ := lay_rows ps
    obtain ⟨h3, h4⟩ := lay_ils p
    rw [List.map_cons]
    constructor
    · simp only [PyData.canLayAll0, h1, h3, Bool.and_self]
    · rw [PyData.depthAll, h4]; exact Nat.max_le.mpr ⟨Nat.le_refl _, h2⟩
theorem eqvAll_rows : ∀ ps qs : List (List Int), PyData.eqvAll (ps.map fun p => ils p) (qs.map fun p => ils p) = decide (ps = qs)
  | [], [] => by simp [PyData.eqvAll]
  | [], b :: q => by simp [PyData.eqvAll]
  | a :: p, [] => by simp [PyData.eqvAll]
  | a :: p, b :: q => by
    rw [List.map_cons, List.map_cons, PyData.eqvAll, eqvAll_rows p q, eqv_ils]
    simp
theorem oNe_rows {ps qs : List (List Int)} : oNe (.list (ps.map fun p => ils p)) (.list (qs.map fun p => ils p)) = some (.bool (!decide (ps = qs))) := by
  have sh : ∀ ps : List (List Int), SeqAt.shaped (.list (ps.map fun p => ils p)) = true := fun ps => by
    obtain ⟨h1, h2⟩ := lay_rows ps
    have h3 : (PyData.list (ps.map fun p => ils p)).depth ≤ 64 := by rw [PyData.depth]; omega
    have h4 : (PyData.list (ps.map fun p => ils p)).canLay0 = true := by rw [PyData.canLay0]; exact h1
    unfold SeqAt.shaped
    rw [h4, decide_eq_true h3]
    rfl
  unfold oNe
  rw [if_pos ⟨sh _, sh _⟩, PyData.eqv, eqvAll_rows]
/-! ### what is of a type -/
theorem isi_list {ds : List PyData} : oIsi "list" (.list ds) = some (.bool true) := by
  unfold oIsi
  rw [show tyD (.list ds) = "list" from rfl, show kitB "list" "list" = some true by decide +kernel]
  rfl
theorem isi_int {i : Int} : oIsi "int" (.int i) = some (.bool true) := by
  unfold oIsi
  rw [show tyD (.int i) = "int" from rfl, show kitB "int" "int" = some true by decide +kernel]
  rfl
theorem isi_bool_int {i : Int} : oIsi "bool" (.int i) = some (.bool false) := by
  unfold oIsi
  rw [show tyD (.int i) = "int" from rfl, show kitB "int" "bool" = some false by decide +kernel]
  rfl
/-! ### the text of a list of whole numbers -/
theorem showable_ints : ∀ {p : List Int}, (∀ n ∈ p, n.natAbs.log2 < 1920) → PyData.showableAll (p.map PyData.int) = true
  | [], _ => rfl
  | a :: p, h => by
    rw [List.map_cons]
    simp only [PyData.showableAll, PyData.showable, showable_ints fun n hn => h n (List.mem_cons_of_mem _ hn), Bool.and_true, decide_eq_true_eq]
    exact h a List.mem_cons_self
theorem hasDict_ints : ∀ p : List Int, PyData.hasDictAll (p.map PyData.int) = false
  | [] => rfl
  | a :: p => by
    rw [List.map_cons]
    simp only [PyData.hasDictAll, PyData.hasDict, hasDict_ints p, Bool.or_false]
end PD

set_option Elab.async false
set_option linter.all false
set_option maxRecDepth 100000
set_option maxHeartbeats 4000000
set_option autoImplicit false
namespace PD
open PySem PySem.Spec L2
open PyProof.Rows hiding St
/-! ### how long the text of lists of whole numbers is -/
theorem piled_ints : ∀ (p : List Int), (∀ n ∈ p, n.natAbs.log2 < 300) → piled (PyData.shownAll (p.map PyData.int)) ≤ p.length * 303
  | [], _ => Nat.le_refl _
  | a :: p, h => by
    have ih := piled_ints p fun n hn => h n (List.mem_cons_of_mem _ hn)
    have ha := int_text_length_le (a := a) (k := 300) (by omega) (h a List.mem_cons_self)
    have e : (PyData.shown (.int a)).length = (toString a).length := by
      rw [PyData.shown]; exact PySem.ofString_length _
    rw [List.map_cons, PyData.shownAll, piled_cons, List.length_cons, e, Nat.succ_mul]
    omega
theorem listText_le (ts : List Str) : (listText ts).length ≤ piled ts + 2 := by
  have hX : (listText ts).length = (textFrom 0 "[" ts).length + 1 := by
    show (textFrom 0 "[" ts ++ "]").length = _
    rw [strLen_append]; rfl
  cases ts with
  | nil =>
    rw [hX]
    show ((("[" : String) : Str)).length + 1 ≤ _
    have : ((("[" : String) : Str)).length = 1 := rfl
    omega
  | cons t r =>
    have h1 := textFrom_length_pos r 1 (("[" : String) ++ ("" : String) ++ t) (by omega)
    have h2 : textFrom 0 "[" (t :: r) = textFrom 1 (("[" : String) ++ ("" : String) ++ t) r := rfl
    have h3 : ((("[" : String) : Str) ++ (("" : String) : Str) ++ t).length = 1 + 0 + t.length := by
      rw [strLen_append, strLen_append]; rfl
    rw [hX, h2, h1, h3, piled_cons]
    omega
theorem shown_ils {p : List Int} (h : ∀ n ∈ p, n.natAbs.log2 < 300) : (PyData.shown (ils p)).length ≤ p.length * 303 + 2 := by
  rw [ils, PyData.shown]
  exact Nat.le_trans (listText_le _) (Nat.add_le_add_right (piled_ints p h) 2)
theorem repr3 {a b c : List Int} (ha : ∀ n ∈ a, n.natAbs.log2 < 300) (hb : ∀ n ∈ b, n.natAbs.log2 < 300) (hc : ∀ n ∈ c, n.natAbs.log2 < 300) (la : a.length ≤ 1000) (lb : b.length ≤ 1000) (lc : c.length ≤ 1000) :
    oRepr [.tuple [ils a, ils b, ils c]] = some (.str (PyData.shown (.tuple [ils a, ils b, ils c]))) := by
  have h24 : 10000000 ≤ line24 := by unfold line24; omega
  have sh : ∀ p : List Int, (∀ n ∈ p, n.natAbs.log2 < 300) → PyData.showable (ils p) = true := fun p h => by
    rw [ils, PyData.showable]
    exact showable_ints fun n hn => by have := h n hn; omega
  have hd : ∀ p : List Int, PyData.hasDict (ils p) = false := fun p => by rw [ils, PyData.hasDict]; exact hasDict_ints p
  have dp : ∀ p : List Int, (ils p).depth = 1 := fun p => (lay_ils p).2
  have s1 := shown_ils ha
  have s2 := shown_ils hb
  have s3 := shown_ils hc
  have k1 : PyData.showable (.tuple [ils a, ils b, ils c]) = true := by
    rw [PyData.showable, PyData.showableAll, PyData.showableAll, PyData.showableAll, PyData.showableAll, sh a ha, sh b hb, sh c hc]; rfl
  have k2 : PyData.hasDict (.tuple [ils a, ils b, ils c]) = false := by
    rw [PyData.hasDict, PyData.hasDictAll, PyData.hasDictAll, PyData.hasDictAll, PyData.hasDictAll, hd, hd, hd]; rfl
  have k3 : PyData.depth (.tuple [ils a, ils b, ils c]) ≤ 60 := by
    rw [PyData.depth, PyData.depthAll, PyData.depthAll, PyData.depthAll, PyData.depthAll, dp, dp, dp]; decide
  have k4 : (PyData.shown (.tuple [ils a, ils b, ils c])).length ≤ line24 := by
    rw [PyData.shown, PyData.shownAll, PyData.shownAll, PyData.shownAll, PyData.shownAll]
    unfold tupleText
    have j := join_length_add [PyData.shown (ils a), PyData.shown (ils b), PyData.shown (ils c)] (by simp)
    rw [piled_cons, piled_cons, piled_cons, piled_nil] at j
    rw [strLen_append, strLen_append]
    have e1 : ((("(" : String) : Str)).length = 1 := rfl
    have e2 : ((if ([PyData.shown (ils a), PyData.shown (ils b), PyData.shown (ils c)] : List Str).length == 1 then ",)" else ")" : String) : Str).length = 1 := rfl
    rw [e1, e2]
    generalize line24 = L at h24
    omega
  unfold oRepr
  exact if_pos ⟨rfl, k1, k2, k3, k4⟩
/-! ### texts that may be compared -/
theorem strOk_append {a b : Str} (ha : PyData.strOk a = true) (hb : PyData.strOk b = true) : PyData.strOk (a ++ b) = true := by
  unfold PyData.strOk at ha hb ⊢
  show (a.cps ++ b.cps).all _ = true
  rw [Array.all_append, ha, hb]; rfl
theorem strOk_of (s : String) : PyData.strOk (Str.ofString s) = true := by
  rw [Str.ofString_eq_toList]
  unfold PyData.strOk
  simp only [List.all_toArray, List.all_map, List.all_eq_true]
  intro c _
  have := c.valid
  simp only [Function.comp, decide_eq_true_eq]
  rcases this with h | ⟨_, h⟩
  · exact Nat.lt_trans h (by decide)
  · exact h
theorem strOk_from : ∀ (ts : List Str) (k : Nat) (acc : Str), PyData.strOk acc = true → (∀ t ∈ ts, PyData.strOk t = true) → PyData.strOk (textFrom k acc ts) = true
  | [], _, _, h, _ => h
  | t :: ts, k, acc, h, ht => by
    show PyData.strOk (textFrom (k + 1) (acc ++ (if k > 0 then ", " else "" : String) ++ t) ts) = true
    exact strOk_from ts _ _ (strOk_append (strOk_append h (strOk_of _)) (ht t List.mem_cons_self)) fun t h => ht t (List.mem_cons_of_mem _ h)
theorem strOk_join : ∀ (ts : List Str), (∀ t ∈ ts, PyData.strOk t = true) → PyData.strOk (Str.join ", " ts) = true
  | [], _ => by
    have e : (Str.join ((", " : String) : Str) []) = Str.empty := rfl
    rw [e]
    simp [PyData.strOk, Str.empty]
  | [x], h => h x List.mem_cons_self
  | x :: y :: r, h => by
    show PyData.strOk (x ++ (", " : String) ++ Str.join ", " (y :: r)) = true
    exact strOk_append (strOk_append (h x List.mem_cons_self) (strOk_of _)) (strOk_join (y :: r) fun t ht => h t (List.mem_cons_of_mem _ ht))
theorem strOk_ints : ∀ (p : List Int), ∀ t ∈ PyData.shownAll (p.map PyData.int), PyData.strOk t = true
  | [], t, h => by simp [PyData.shownAll] at h
  | a :: p, t, h => by
    rw [List.map_cons, PyData.shownAll] at h
    rcases List.mem_cons.mp h with rfl | h
    · rw [PyData.shown]; exact strOk_of _
    · exact strOk_ints p t h
theorem strOk_ils (p : List Int) : PyData.strOk (PyData.shown (ils p)) = true := by
  rw [ils, PyData.shown]
  exact strOk_append (strOk_from _ _ _ (strOk_of _) (strOk_ints p)) (strOk_of _)
theorem oEq_shown3 (a b c : List Int) : oEq (.str (PyData.shown (.tuple [ils a, ils b, ils c]))) (.str (PyData.shown (.tuple [ils a, ils b, ils c]))) = some (.bool true) := by
  have h : PyData.strOk (PyData.shown (.tuple [ils a, ils b, ils c])) = true := by
    rw [PyData.shown, PyData.shownAll, PyData.shownAll, PyData.shownAll, PyData.shownAll]
    unfold tupleText
    refine strOk_append (strOk_append (strOk_of _) (strOk_join _ fun t ht => ?_)) (strOk_of _)
    rcases List.mem_cons.mp ht with rfl | ht
    · exact strOk_ils a
    · rcases List.mem_cons.mp ht with rfl | ht
      · exact strOk_ils b
      · rw [List.mem_singleton.mp ht]; exact strOk_ils c
  have hs : SeqAt.shaped (.str (PyData.shown (.tuple [ils a, ils b, ils c]))) = true := by
    unfold SeqAt.shaped
    rw [PyData.canLay0, h, PyData.depth]
    rfl
  unfold oEq
  rw [if_pos ⟨hs, hs⟩, PyData.eqv]
  simp
theorem leastOf_some : ∀ (l : List Int), l ≠ [] → ∃ m, leastOf l = some m
  | [], h => absurd rfl h
  | [a], _ => ⟨a, rfl⟩
  | a :: b :: r, _ => by
    obtain ⟨m, hm⟩ := leastOf_some (b :: r) (by simp)
    exact ⟨if m < a then m else a, by rw [leastOf, hm]; rfl⟩
end PD

set_option autoImplicit false
/-! Polynomials as lists of integers, by their values. Core Lean only. -/
namespace Pl

abbrev P := List Int
def ev : P → Int → Int
  | [], _ => 0
  | a :: p, x => a + x * ev p x
@[simp] theorem ev_nil (x : Int) : ev [] x = 0 := rfl
@[simp] theorem ev_cons (a : Int) (p : P) (x : Int) : ev (a :: p) x = a + x * ev p x := rfl

/-- no zero at the end -/
def Tr (p : P) : Prop := p.getLast? ≠ some 0
def lc (p : P) : Int := p.getLastD 0
theorem tr_nil : Tr [] := by simp [Tr]
theorem tr_cons {a : Int} {p : P} (h : Tr (a :: p)) : Tr p := by
  cases p with
  | nil => exact tr_nil
  | cons b q => simpa [Tr, List.getLast?_cons_cons] using h
theorem lc_ne {p : P} (h : Tr p) (hp : p ≠ []) : lc p ≠ 0 := by
  cases p with
  | nil => exact absurd rfl hp
  | cons a q =>
    intro e
    apply h
    rw [lc, List.getLastD_eq_getLast?, ] at e
    rw [List.getLast?_eq_some_getLast (by simp)] at e ⊢
    simpa using e
theorem tr_of_lc {p : P} (h : lc p ≠ 0) : Tr p := by
  intro e
  apply h
  rw [lc, List.getLastD_eq_getLast?, e]
  rfl

/-- a number that all great enough integers divide is 0 -/
theorem zero_of_dvd {c N : Int} (h : ∀ x : Int, N ≤ x → ∃ k, c = x * k) : c = 0 := by
  have h1 := h (max N (c.natAbs + 1)) (by omega)
  obtain ⟨k, hk⟩ := h1
  generalize hX : max N ((c.natAbs : Int) + 1) = X at hk
  have hX1 : (c.natAbs : Int) + 1 ≤ X := by omega
  rcases Int.lt_trichotomy k 0 with hk0 | hk0 | hk0
  · have : X * k ≤ X * (-1) := Int.mul_le_mul_of_nonneg_left (by omega) (by omega)
    omega
  · rw [hk0, Int.mul_zero] at hk; exact hk
  · have : X * 1 ≤ X * k := Int.mul_le_mul_of_nonneg_left (by omega) (by omega)
    omega
theorem ev_zero_all {N : Int} : ∀ {p : P}, (∀ x, N ≤ x → ev p x = 0) → Tr p → p = []
  | [], _, _ => rfl
  | a :: p, h, t => by
    have ha : a = 0 := zero_of_dvd (N := N) fun x hx => ⟨-(ev p x), by have := h x hx; rw [ev_cons] at this; rw [Int.mul_neg]; omega⟩
    subst ha
    have hp : p = [] := ev_zero_all (N := max N 1) (fun x hx => by
      have := h x (by omega)
      rw [ev_cons, Int.zero_add] at this
      rcases Int.mul_eq_zero.mp this with z | z
      · omega
      · exact z) (tr_cons t)
    subst hp
    exact absurd rfl t
theorem ext_ev {N : Int} : ∀ {p q : P}, (∀ x, N ≤ x → ev p x = ev q x) → Tr p → Tr q → p = q
  | [], q, h, _, tq => (ev_zero_all (N := N) (fun x hx => (h x hx).symm) tq).symm
  | p, [], h, tp, _ => ev_zero_all (N := N) h tp
  | a :: p, b :: q, h, tp, tq => by
    have hab : a - b = 0 := zero_of_dvd (N := N) fun x hx => ⟨ev q x - ev p x, by
      have := h x hx
      rw [ev_cons, ev_cons] at this
      rw [Int.mul_sub]; omega⟩
    have e : a = b := by omega
    subst e
    rw [ext_ev (N := max N 1) (p := p) (q := q) (fun x hx => by
      have := h x (by omega)
      rw [ev_cons, ev_cons] at this
      exact Int.eq_of_mul_eq_mul_left (a := x) (by omega) (by omega)) (tr_cons tp) (tr_cons tq)]
theorem ext_all {p q : P} (h : ∀ x, ev p x = ev q x) (tp : Tr p) (tq : Tr q) : p = q := ext_ev (N := 0) (fun x _ => h x) tp tq

/-! ### operations -/
def add : P → P → P
  | [], q => q
  | p, [] => p
  | a :: p, b :: q => (a + b) :: add p q
def smul (c : Int) (p : P) : P := p.map fun n => c * n
def shift (k : Nat) (p : P) : P := List.replicate k 0 ++ p
def mul : P → P → P
  | [], _ => []
  | a :: p, q => add (smul a q) (0 :: mul p q)
theorem ev_add : ∀ (p q : P) (x : Int), ev (add p q) x = ev p x + ev q x
  | [], q, x => by simp [add]
  | a :: p, [], x => by simp [add]
  | a :: p, b :: q, x => by
    simp only [add, ev_cons, ev_add p q x]
    grind
theorem ev_smul (c : Int) : ∀ (p : P) (x : Int), ev (smul c p) x = c * ev p x
  | [], x => by simp [smul]
  | a :: p, x => by
    have := ev_smul c p x
    simp only [smul, List.map_cons, ev_cons] at this ⊢
    rw [this]; grind
theorem ev_shift : ∀ (k : Nat) (p : P) (x : Int), ev (shift k p) x = x ^ k * ev p x
  | 0, p, x => by simp [shift]
  | k + 1, p, x => by
    have := ev_shift k p x
    simp only [shift, List.replicate_succ, List.cons_append, ev_cons] at this ⊢
    rw [this]; grind
theorem ev_mul : ∀ (p q : P) (x : Int), ev (mul p q) x = ev p x * ev q x
  | [], q, x => by simp [mul]
  | a :: p, q, x => by
    simp only [mul, ev_add, ev_smul, ev_cons, ev_mul p q x]
    grind
theorem add_length : ∀ (p q : P), (add p q).length = max p.length q.length
  | [], q => by simp [add]
  | a :: p, [] => by simp [add]
  | a :: p, b :: q => by
    simp only [add, List.length_cons, add_length p q]; omega
theorem mul_length : ∀ (p q : P), p ≠ [] → q ≠ [] → (mul p q).length = p.length + q.length - 1
  | [], q, h, _ => absurd rfl h
  | [a], q, _, hq => by
    have : 0 < q.length := List.length_pos_iff.mpr hq
    simp only [mul, add_length, smul, List.length_map, List.length_cons, List.length_nil]
    omega
  | a :: b :: p, q, _, hq => by
    have ih := mul_length (b :: p) q (by simp) hq
    have : 0 < q.length := List.length_pos_iff.mpr hq
    rw [mul, add_length, List.length_cons, ih]
    simp only [smul, List.length_map, List.length_cons]
    omega

/-! ### zeros at the end cut off -/
def trimLen (p : P) : Nat → Nat
  | 0 => 0
  | n + 1 => if p.getD n 0 = 0 then trimLen p n else n + 1
def trim (p : P) : P := p.take (trimLen p p.length)
theorem trimLen_le (p : P) : ∀ n, trimLen p n ≤ n
  | 0 => Nat.le_refl 0
  | n + 1 => by
    unfold trimLen
    split
    · have := trimLen_le p n; omega
    · omega
theorem ev_take_zero : ∀ (p : P) (n : Nat), (∀ i, n ≤ i → p.getD i 0 = 0) → ∀ x, ev (p.take n) x = ev p x
  | [], n, _, x => by simp
  | a :: p, 0, h, x => by
    have ha : a = 0 := by simpa using h 0 (Nat.le_refl 0)
    have := ev_take_zero p 0 (fun i hi => by simpa using h (i + 1) (by omega)) x
    simp only [List.take_zero, ev_nil, ev_cons] at this ⊢
    rw [← this, ha]; simp
  | a :: p, n + 1, h, x => by
    have := ev_take_zero p n (fun i hi => by simpa using h (i + 1) (by omega)) x
    simp only [List.take_succ_cons, ev_cons, this]
theorem trimLen_zero (p : P) : ∀ n i, trimLen p n ≤ i → i < n → p.getD i 0 = 0
  | 0, i, _, h => absurd h (Nat.not_lt_zero i)
  | n + 1, i, h, hi => by
    unfold trimLen at h
    split at h
    · rename_i hz
      by_cases e : i = n
      · subst e; exact hz
      · exact trimLen_zero p n i h (by omega)
    · omega
theorem ev_trim (p : P) (x : Int) : ev (trim p) x = ev p x := by
  apply ev_take_zero
  intro i hi
  by_cases h : i < p.length
  · exact trimLen_zero p _ i hi h
  · simp [List.getD_eq_getElem?_getD, List.getElem?_eq_none (Nat.le_of_not_lt h)]
theorem trimLen_last (p : P) : ∀ n m, trimLen p n = m + 1 → p.getD m 0 ≠ 0
  | 0, m, h => by simp [trimLen] at h
  | n + 1, m, h => by
    unfold trimLen at h
    split at h
    · exact trimLen_last p n m h
    · rename_i hz
      have : m = n := by omega
      subst this; exact hz
theorem tr_trim (p : P) : Tr (trim p) := by
  unfold Tr trim
  cases e : trimLen p p.length with
  | zero => simp
  | succ m =>
    have hm := trimLen_last p _ m e
    have hl : m < p.length := by have := trimLen_le p p.length; omega
    rw [List.getLast?_eq_getElem?, List.length_take]
    have : min (m + 1) p.length - 1 = m := by omega
    rw [this, List.getElem?_take_of_lt (by omega), List.getElem?_eq_getElem hl]
    intro h
    apply hm
    simp only [Option.some.injEq] at h
    simp [List.getD_eq_getElem?_getD, List.getElem?_eq_getElem hl, h]
theorem trim_id {p : P} (h : Tr p) : trim p = p := ext_all (ev_trim p) (tr_trim p) h
theorem trim_length_le (p : P) : (trim p).length ≤ p.length := by
  unfold trim
  rw [List.length_take]; omega
end Pl

set_option autoImplicit false
set_option linter.all false
namespace Pl
/-! ### coefficients -/
def co (p : P) (k : Nat) : Int := p.getD k 0
@[simp] theorem co_nil (k : Nat) : co [] k = 0 := by simp [co]
@[simp] theorem co_zero (a : Int) (p : P) : co (a :: p) 0 = a := by simp [co]
@[simp] theorem co_succ (a : Int) (p : P) (k : Nat) : co (a :: p) (k + 1) = co p k := by simp [co]
theorem co_ge {p : P} {k : Nat} (h : p.length ≤ k) : co p k = 0 := by simp [co, List.getD_eq_getElem?_getD, List.getElem?_eq_none h]
theorem co_lt {p : P} {k : Nat} (h : k < p.length) : co p k = p[k] := by simp [co, List.getD_eq_getElem?_getD, List.getElem?_eq_getElem h]
theorem co_add : ∀ (p q : P) (k : Nat), co (add p q) k = co p k + co q k
  | [], q, k => by simp [add]
  | a :: p, [], k => by simp [add]
  | a :: p, b :: q, 0 => by simp [add]
  | a :: p, b :: q, k + 1 => by simp [add, co_add p q k]
theorem co_smul (c : Int) : ∀ (p : P) (k : Nat), co (smul c p) k = c * co p k
  | [], k => by simp [smul]
  | a :: p, 0 => by simp [smul]
  | a :: p, k + 1 => by
    have := co_smul c p k
    simpa [smul] using this
theorem co_trim (p : P) (k : Nat) : co (trim p) k = co p k := by
  unfold trim
  by_cases h : k < trimLen p p.length
  · simp [co, List.getD_eq_getElem?_getD, List.getElem?_take_of_lt h]
  · rw [co_ge (by rw [List.length_take]; omega)]
    by_cases h2 : k < p.length
    · exact (trimLen_zero p _ k (by omega) h2).symm
    · exact (co_ge (by omega)).symm
theorem co_ext {p q : P} (h : ∀ x, ev p x = ev q x) (k : Nat) : co p k = co q k := by
  have e : trim p = trim q := ext_all (fun x => by rw [ev_trim, ev_trim, h x]) (tr_trim p) (tr_trim q)
  rw [← co_trim p, ← co_trim q, e]
theorem ev_ext_co : ∀ {p q : P}, (∀ k, co p k = co q k) → ∀ x, ev p x = ev q x
  | [], [], _, _ => rfl
  | [], b :: q, h, x => by
    have h0 := h 0
    have := ev_ext_co (p := []) (q := q) (fun k => by simpa using h (k + 1)) x
    simp at h0 this ⊢
    rw [← h0, ← this]; simp
  | a :: p, [], h, x => by
    have h0 := h 0
    have := ev_ext_co (p := p) (q := []) (fun k => by simpa using h (k + 1)) x
    simp at h0 this ⊢
    rw [h0, this]; simp
  | a :: p, b :: q, h, x => by
    have h0 := h 0
    have := ev_ext_co (p := p) (q := q) (fun k => by simpa using h (k + 1)) x
    simp at h0 ⊢
    rw [h0, this]
theorem lc_co {p : P} (hp : p ≠ []) : lc p = co p (p.length - 1) := by
  have : 0 < p.length := List.length_pos_iff.mpr hp
  rw [lc, List.getLastD_eq_getLast?, List.getLast?_eq_getElem?, co, List.getD_eq_getElem?_getD]
theorem lc_mul : ∀ {p q : P}, p ≠ [] → q ≠ [] → lc (mul p q) = lc p * lc q := by
  have key : ∀ (p q : P), p ≠ [] → q ≠ [] → co (mul p q) (p.length + q.length - 2) = co p (p.length - 1) * co q (q.length - 1) := by
    intro p
    induction p with
    | nil => intro q h; exact absurd rfl h
    | cons a p ih =>
      intro q _ hq
      have lq : 0 < q.length := List.length_pos_iff.mpr hq
      rw [mul, co_add, co_smul]
      cases p with
      | nil =>
        simp only [List.length_cons, List.length_nil, mul]
        have e1 : 0 + 1 + q.length - 2 = q.length - 1 := by omega
        rw [e1]
        cases hn : q.length - 1 with
        | zero => simp
        | succ n => simp
      | cons b r =>
        have ih' := ih q (by simp) hq
        simp only [List.length_cons] at ih' ⊢
        have e1 : r.length + 1 + 1 + q.length - 2 = (r.length + 1 + q.length - 2) + 1 := by omega
        rw [e1, co_succ, ih', co_ge (p := q) (by omega)]
        have e2 : r.length + 1 + 1 - 1 = r.length + 1 - 1 + 1 := by omega
        rw [e2, co_succ]
        simp
  intro p q hp hq
  have lp : 0 < p.length := List.length_pos_iff.mpr hp
  have lq : 0 < q.length := List.length_pos_iff.mpr hq
  have hl := mul_length p q hp hq
  have hne : mul p q ≠ [] := by
    intro e
    rw [e] at hl
    simp at hl
    omega
  rw [lc_co hne, lc_co hp, lc_co hq, hl, ← key p q hp hq]
  congr 1
theorem mul_ne {p q : P} (hp : p ≠ []) (hq : q ≠ []) : mul p q ≠ [] := by
  have hl := mul_length p q hp hq
  have lp : 0 < p.length := List.length_pos_iff.mpr hp
  have lq : 0 < q.length := List.length_pos_iff.mpr hq
  intro e
  rw [e] at hl
  simp at hl
  omega
theorem tr_mul {p q : P} (tp : Tr p) (tq : Tr q) (hp : p ≠ []) (hq : q ≠ []) : Tr (mul p q) :=
  tr_of_lc (by rw [lc_mul hp hq]; exact Int.mul_ne_zero (lc_ne tp hp) (lc_ne tq hq))
/-- a product of values that is 0 -/
theorem ev_mul_zero {p q : P} {N : Int} (tp : Tr p) (tq : Tr q) (h : ∀ x, N ≤ x → ev p x * ev q x = 0) : p = [] ∨ q = [] := by
  by_cases hp : p = []
  · exact .inl hp
  · by_cases hq : q = []
    · exact .inr hq
    · exact absurd (ev_zero_all (N := N) (fun x hx => by rw [ev_mul]; exact h x hx) (tr_mul tp tq hp hq)) (mul_ne hp hq)
theorem lc_smul {c : Int} {p : P} : lc (smul c p) = c * lc p := by
  by_cases hp : p = []
  · subst hp; simp [lc, smul]
  · rw [lc_co hp, lc_co (by simp [smul, hp]), co_smul]
    simp [smul]
theorem tr_smul {c : Int} {p : P} (hc : c ≠ 0) (tp : Tr p) : Tr (smul c p) := by
  by_cases hp : p = []
  · subst hp; simp [smul, tr_nil]
  · exact tr_of_lc (by rw [lc_smul]; exact Int.mul_ne_zero hc (lc_ne tp hp))

/-! ### contents -/
def contentFrom (c : Int) : P → Int
  | [] => c
  | a :: p => contentFrom (Int.gcd c a : Int) p
def content (p : P) : Int := contentFrom 0 p
def dvdAll (d : Int) (p : P) : Prop := ∀ k, d ∣ co p k
theorem dvdAll_cons {d a : Int} {p : P} : dvdAll d (a :: p) ↔ d ∣ a ∧ dvdAll d p := by
  constructor
  · intro h
    exact ⟨by simpa using h 0, fun k => by simpa using h (k + 1)⟩
  · rintro ⟨h1, h2⟩ k
    cases k with
    | zero => simpa using h1
    | succ k => simpa using h2 k
theorem dvdAll_nil (d : Int) : dvdAll d [] := fun k => by simp
theorem dvd_contentFrom {d : Int} : ∀ (p : P) (c : Int), d ∣ contentFrom c p ↔ d ∣ c ∧ dvdAll d p
  | [], c => by simp [contentFrom, dvdAll_nil]
  | a :: p, c => by
    rw [contentFrom, dvd_contentFrom p, dvdAll_cons]
    constructor
    · rintro ⟨h1, h2⟩
      exact ⟨Int.dvd_trans h1 (Int.gcd_dvd_left ..), Int.dvd_trans h1 (Int.gcd_dvd_right ..), h2⟩
    · rintro ⟨h1, h2, h3⟩
      exact ⟨Int.dvd_coe_gcd h1 h2, h3⟩
theorem dvd_content {d : Int} {p : P} : d ∣ content p ↔ dvdAll d p := by
  rw [content, dvd_contentFrom]; simp
theorem contentFrom_nonneg : ∀ (p : P) (c : Int), 0 ≤ c → 0 ≤ contentFrom c p
  | [], c, h => h
  | a :: p, c, _ => contentFrom_nonneg p _ (Int.natCast_nonneg _)
theorem content_nonneg (p : P) : 0 ≤ content p := contentFrom_nonneg p 0 (Int.le_refl 0)
theorem content_dvd (p : P) : dvdAll (content p) p := dvd_content.mp (Int.dvd_refl _)
theorem content_zero {p : P} (h : content p = 0) (k : Nat) : co p k = 0 := by
  have := content_dvd p k
  rw [h] at this
  exact Int.zero_dvd.mp this
theorem content_ne {p : P} (tp : Tr p) (hp : p ≠ []) : content p ≠ 0 := fun h => lc_ne tp hp (by rw [lc_co hp]; exact content_zero h _)
theorem nat_dvd_eq {a b : Int} (ha : 0 ≤ a) (hb : 0 ≤ b) (h1 : a ∣ b) (h2 : b ∣ a) : a = b := Int.dvd_antisymm ha hb h1 h2
theorem content_smul {c : Int} {p : P} : content (smul c p) = c.natAbs * content p := by
  by_cases hc : c = 0
  · subst hc
    refine nat_dvd_eq (content_nonneg _) ?_ ?_ ?_
    · simp
    · rw [show ((Int.natAbs 0 : Nat) : Int) * content p = 0 by simp]; exact Int.dvd_zero _
    · rw [dvd_content]; intro k; rw [co_smul]; simp
  · refine nat_dvd_eq (content_nonneg _) (Int.mul_nonneg (Int.natCast_nonneg _) (content_nonneg _)) ?_ ?_
    · have hd : c ∣ content (smul c p) := dvd_content.mpr fun k => by rw [co_smul]; exact Int.dvd_mul_right _ _
      obtain ⟨m, hm⟩ := hd
      have hmp : m ∣ content p := dvd_content.mpr fun k => by
        have := content_dvd (smul c p) k
        rw [co_smul, hm] at this
        exact Int.dvd_of_mul_dvd_mul_left hc this
      rw [hm]
      have h1 : c * m ∣ c * content p := Int.mul_dvd_mul_left c hmp
      have h2 : c * content p ∣ (c.natAbs : Int) * content p := Int.mul_dvd_mul_right _ (Int.dvd_natAbs.mpr (Int.dvd_refl c))
      exact Int.dvd_trans h1 h2
    · rw [dvd_content]
      intro k
      rw [co_smul]
      exact Int.mul_dvd_mul (Int.natAbs_dvd.mpr (Int.dvd_refl c)) (content_dvd p k)

/-! ### primes, Gauss -/
def Pr (n : Nat) : Prop := 2 ≤ n ∧ ∀ d, d ∣ n → d = 1 ∨ d = n
theorem exists_pr : ∀ (n : Nat), 2 ≤ n → ∃ q, Pr q ∧ q ∣ n := by
  intro n
  induction n using Nat.strongRecOn with
  | _ n ih =>
    intro hn
    by_cases h : ∀ d, d ∣ n → d = 1 ∨ d = n
    · exact ⟨n, ⟨hn, h⟩, Nat.dvd_refl n⟩
    · have h' : ∃ d, d ∣ n ∧ d ≠ 1 ∧ d ≠ n := Classical.byContradiction fun hc => h fun d hd => by
        by_cases h1 : d = 1
        · exact .inl h1
        · by_cases h2 : d = n
          · exact .inr h2
          · exact absurd ⟨d, hd, h1, h2⟩ hc
      obtain ⟨d, hd, h1, h2⟩ := h'
      have hpos : 0 < d := Nat.pos_of_dvd_of_pos hd (by omega)
      have hle : d ≤ n := Nat.le_of_dvd (by omega) hd
      obtain ⟨q, hq, hqd⟩ := ih d (by omega) (by omega)
      exact ⟨q, hq, Nat.dvd_trans hqd hd⟩
theorem Pr.dvd_mul {q : Nat} (hq : Pr q) {a b : Int} (h : (q : Int) ∣ a * b) : (q : Int) ∣ a ∨ (q : Int) ∣ b := by
  have hn : q ∣ a.natAbs * b.natAbs := by
    rw [← Int.natAbs_mul]; exact Int.ofNat_dvd_left.mp h
  rcases hq.2 (Nat.gcd q a.natAbs) (Nat.gcd_dvd_left _ _) with h1 | h1
  · exact .inr (Int.ofNat_dvd_left.mpr (Nat.Coprime.dvd_of_dvd_mul_left h1 hn))
  · exact .inl (Int.ofNat_dvd_left.mpr (by rw [← h1]; exact Nat.gcd_dvd_right _ _))
theorem dvdAll_add {d : Int} {p q : P} (h1 : dvdAll d p) (h2 : dvdAll d q) : dvdAll d (add p q) := fun k => by rw [co_add]; exact Int.dvd_add (h1 k) (h2 k)
theorem mul_cons_co (p : P) (b : Int) (q : P) (k : Nat) : co (mul p (b :: q)) k = b * co p k + co (0 :: mul p q) k := by
  rw [← co_smul, ← co_add]
  apply co_ext
  intro x
  simp only [ev_mul, ev_add, ev_smul, ev_cons]
  grind
theorem gauss_pr {r : Nat} (hr : Pr r) : ∀ (n : Nat) (p q : P), p.length + q.length ≤ n → dvdAll r (mul p q) → dvdAll r p ∨ dvdAll r q
  | 0, p, q, hn, _ => by
    have : p = [] := List.length_eq_zero_iff.mp (by omega)
    subst this; exact .inl (dvdAll_nil _)
  | n + 1, [], q, _, _ => .inl (dvdAll_nil _)
  | n + 1, a :: p, [], _, _ => .inr (dvdAll_nil _)
  | n + 1, a :: p, b :: q, hn, h => by
    have h0 : (r : Int) ∣ a * b := by
      have := h 0
      simpa [mul, add, smul] using this
    rcases hr.dvd_mul h0 with ha | hb
    · -- a is divided: look at p
      have h1 : dvdAll r (mul p (b :: q)) := fun k => by
        have := h (k + 1)
        rw [mul, co_add, co_smul, co_succ] at this
        exact (Int.dvd_add_right (Int.dvd_mul_of_dvd_left ha)).mp this
      rcases gauss_pr hr n p (b :: q) (by simp at hn ⊢; omega) h1 with z | z
      · exact .inl (dvdAll_cons.mpr ⟨ha, z⟩)
      · exact .inr z
    · have h1 : dvdAll r (mul (a :: p) q) := fun k => by
        have := h (k + 1)
        rw [mul_cons_co, co_succ] at this
        exact (Int.dvd_add_right (Int.dvd_mul_of_dvd_left hb)).mp this
      rcases gauss_pr hr n (a :: p) q (by simp at hn ⊢; omega) h1 with z | z
      · exact .inl z
      · exact .inr (dvdAll_cons.mpr ⟨hb, z⟩)
theorem content_mul_one {p q : P} (hp : content p = 1) (hq : content q = 1) : content (mul p q) = 1 := by
  have h0 := content_nonneg (mul p q)
  by_cases h : content (mul p q) = 1
  · exact h
  · by_cases hz : content (mul p q) = 0
    · -- all coefficients 0: any prime divides
      rcases gauss_pr (r := 2) ⟨by omega, fun d hd => by
          have := Nat.le_of_dvd (by omega) hd
          have := Nat.pos_of_dvd_of_pos hd (by omega)
          omega⟩ _ p q (Nat.le_refl _) (fun k => by rw [content_zero hz k]; exact Int.dvd_zero _) with z | z
      · have := dvd_content.mpr z; rw [hp] at this; omega
      · have := dvd_content.mpr z; rw [hq] at this; omega
    · obtain ⟨r, hr, hd⟩ := exists_pr (content (mul p q)).natAbs (by omega)
      have hd' : (r : Int) ∣ content (mul p q) := Int.ofNat_dvd_left.mpr hd
      rcases gauss_pr hr _ p q (Nat.le_refl _) (dvd_content.mp hd') with z | z
      · have := dvd_content.mpr z
        rw [hp] at this
        have h2 := hr.1
        have := Int.le_of_dvd (by omega) this
        omega
      · have := dvd_content.mpr z
        rw [hq] at this
        have h2 := hr.1
        have := Int.le_of_dvd (by omega) this
        omega

/-! ### lowest form -/
/-- in lowest numbers, the last one above 0 -/
structure Low (p : P) : Prop where
  tr : Tr p
  ne : p ≠ []
  one : content p = 1
  pos : 0 < lc p
theorem Low.mul {p q : P} (hp : Low p) (hq : Low q) : Low (Pl.mul p q) := ⟨tr_mul hp.tr hq.tr hp.ne hq.ne, mul_ne hp.ne hq.ne, content_mul_one hp.one hq.one, by rw [lc_mul hp.ne hq.ne]; exact Int.mul_pos hp.pos hq.pos⟩
theorem low_one : Low [1] := ⟨by simp [Tr], by simp, by simp [content, contentFrom], by simp [lc]⟩
/-- two in lowest form that are multiples of each other are one -/
theorem Low.eq {p q : P} (hp : Low p) (hq : Low q) {a b : Int} (ha : a ≠ 0) (hb : b ≠ 0) (h : ∀ x, a * ev p x = b * ev q x) : p = q := by
  have e : smul a p = smul b q := ext_all (fun x => by rw [ev_smul, ev_smul, h x]) (tr_smul ha hp.tr) (tr_smul hb hq.tr)
  have hc : (a.natAbs : Int) = b.natAbs := by
    have := congrArg content e
    rw [content_smul, content_smul, hp.one, hq.one] at this
    omega
  have hl : a * lc p = b * lc q := by
    have := congrArg lc e
    rwa [lc_smul, lc_smul] at this
  have hab : a = b := by
    have h1 := hp.pos
    have h2 := hq.pos
    rcases Int.natAbs_eq_natAbs_iff.mp (by omega : a.natAbs = b.natAbs) with z | z
    · exact z
    · exfalso
      rw [z] at hl
      rcases Int.lt_or_gt_of_ne hb with h3 | h3
      · have q1 : 0 < (-b) * lc p := Int.mul_pos (by omega) h1
        have q2 : b * lc q < 0 := Int.mul_neg_of_neg_of_pos h3 h2
        omega
      · have q1 : (-b) * lc p < 0 := Int.mul_neg_of_neg_of_pos (by omega) h1
        have q2 : 0 < b * lc q := Int.mul_pos h3 h2
        omega
  subst hab
  exact ext_all (fun x => Int.eq_of_mul_eq_mul_left ha (h x)) hp.tr hq.tr
/-- the lowest form, as the program makes it -/
def prim (p : P) : P := if content p = 0 then [] else p.map fun n => n.fdiv (if lc p < 0 then -content p else content p)
theorem prim_spec {p : P} (tp : Tr p) (hp : p ≠ []) : ∃ c, c ≠ 0 ∧ c.natAbs = (content p).natAbs ∧ smul c (prim p) = p ∧ Low (prim p) := by
  have hc := content_ne tp hp
  have h0 := content_nonneg p
  have key : ∀ c : Int, c ≠ 0 → dvdAll c p → smul c (p.map fun n => n.fdiv c) = p := by
    intro c hc hd
    have : ∀ (q : P), dvdAll c q → smul c (q.map fun n => n.fdiv c) = q := by
      intro q
      induction q with
      | nil => intro _; rfl
      | cons a q ih =>
        intro hq
        obtain ⟨ha, hq⟩ := dvdAll_cons.mp hq
        have := ih hq
        simp only [smul, List.map_cons, List.map_map] at this ⊢
        rw [this, Int.mul_fdiv_cancel' ha]
    exact this p hd
  unfold prim
  rw [if_neg hc]
  split
  · rename_i hl
    refine ⟨-content p, by omega, by omega, key _ (by omega) fun k => Int.neg_dvd.mpr (content_dvd p k), ?_⟩
    have e := key (-content p) (by omega) fun k => Int.neg_dvd.mpr (content_dvd p k)
    generalize hq : (p.map fun n => n.fdiv (-content p)) = q at e
    have hlq : -content p * lc q = lc p := by rw [← lc_smul, e]
    have hqn : q ≠ [] := by intro z; apply hp; rw [← e, z]; rfl
    have hpos : 0 < lc q := by
      rcases Int.lt_trichotomy (lc q) 0 with z | z | z
      · have : 0 < -content p * lc q := by
          have := Int.mul_pos_of_neg_of_neg (a := -content p) (by omega) z
          exact this
        omega
      · rw [z] at hlq; omega
      · exact z
    refine ⟨tr_of_lc (by omega), hqn, ?_, hpos⟩
    have := congrArg content e
    rw [content_smul] at this
    have h3 : ((-content p).natAbs : Int) = content p := by omega
    rw [h3] at this
    exact Int.eq_of_mul_eq_mul_left hc (by rw [this]; omega)
  · rename_i hl
    have hlp := lc_ne tp hp
    refine ⟨content p, hc, rfl, key _ hc (content_dvd p), ?_⟩
    have e := key (content p) hc (content_dvd p)
    generalize hq : (p.map fun n => n.fdiv (content p)) = q at e
    have hlq : content p * lc q = lc p := by rw [← lc_smul, e]
    have hqn : q ≠ [] := by intro z; apply hp; rw [← e, z]; rfl
    have hpos : 0 < lc q := by
      rcases Int.lt_trichotomy (lc q) 0 with z | z | z
      · have := Int.mul_neg_of_pos_of_neg (a := content p) (by omega) z
        omega
      · rw [z] at hlq; omega
      · exact z
    refine ⟨tr_of_lc (by omega), hqn, ?_, hpos⟩
    have := congrArg content e
    rw [content_smul] at this
    have h3 : ((content p).natAbs : Int) = content p := by omega
    rw [h3] at this
    exact Int.eq_of_mul_eq_mul_left hc (by rw [this]; omega)
theorem prim_nil : prim [] = [] := by simp [prim, content, contentFrom]
theorem prim_low {p : P} (h : Low p) : prim p = p := by
  obtain ⟨c, hc, hn, e, hl⟩ := prim_spec h.tr h.ne
  exact hl.eq h (a := c) (b := 1) hc (by omega) fun x => by rw [← ev_smul, e]; omega
theorem prim_length (p : P) (tp : Tr p) : (prim p).length = p.length := by
  by_cases hp : p = []
  · subst hp; rw [prim_nil]
  · unfold prim
    rw [if_neg (content_ne tp hp), List.length_map]
theorem prim_tr {p : P} (tp : Tr p) : Tr (prim p) := by
  by_cases hp : p = []
  · subst hp; rw [prim_nil]; exact tr_nil
  · obtain ⟨_, _, _, _, hl⟩ := prim_spec tp hp; exact hl.tr
/-- p divides a with integers, if it does with fractions -/
theorem Low.dvd {p a q : P} (hp : Low p) {c : Int} (hc : c ≠ 0) (h : ∀ x, c * ev a x = ev q x * ev p x) : ∃ q', Tr q' ∧ ∀ x, ev a x = ev q' x * ev p x := by
  by_cases ha : trim a = []
  · exact ⟨[], tr_nil, fun x => by rw [← ev_trim a, ha]; simp⟩
  · have hq : trim q ≠ [] := fun z => ha (ev_zero_all (N := 0) (fun x _ => by
      have := h x
      rw [← ev_trim q, z, ev_nil, Int.zero_mul] at this
      rcases Int.mul_eq_zero.mp this with w | w
      · exact absurd w hc
      · rw [ev_trim]; exact w) (tr_trim a))
    obtain ⟨d, hd, hdn, ed, ld⟩ := prim_spec (tr_trim q) hq
    have e1 : smul c (trim a) = smul d (Pl.mul (prim (trim q)) p) := ext_all (fun x => by
      rw [ev_smul, ev_smul, ev_mul, ev_trim, h x, ← ev_trim q]
      conv => lhs; rw [← ed]
      rw [ev_smul]; grind) (tr_smul hc (tr_trim a)) (tr_smul hd (ld.mul hp).tr)
    have e2 := congrArg content e1
    rw [content_smul, content_smul, (ld.mul hp).one, Int.mul_one] at e2
    have hcd : c ∣ d := by
      rw [← Int.natAbs_dvd_natAbs, ← Int.ofNat_dvd, ← e2]
      exact Int.dvd_mul_right _ _
    obtain ⟨m, rfl⟩ := hcd
    have hm : m ≠ 0 := fun z => hd (by rw [z]; simp)
    refine ⟨smul m (prim (trim q)), tr_smul hm ld.tr, fun x => ?_⟩
    have := congrArg (fun r => ev r x) e1
    simp only [ev_smul, ev_mul, ev_trim] at this
    rw [ev_smul]
    apply Int.eq_of_mul_eq_mul_left hc
    rw [this]; grind
end Pl

set_option autoImplicit false
set_option linter.all false
namespace Pl
/-! ### division with rest in lowest numbers -/
def remStep (l t : P) : P := prim (trim (add (smul (lc t) l) (shift (l.length - t.length) (smul (-(lc l)) t))))
def remGo : Nat → P → P → P
  | 0, l, _ => l
  | n + 1, l, t => if t.length ≤ l.length then remGo n (remStep l t) t else l
def rem (a t : P) : P := remGo (a.length + 1) (prim a) t
def gcdGo : Nat → P → P → P
  | 0, a, _ => a
  | n + 1, a, t => if t = [] then a else gcdGo n t (rem a t)
def gcdP (a b : P) : P := gcdGo (b.length + 1) (prim a) (prim b)

theorem co_shift_lt {k i : Nat} {p : P} (h : i < k) : co (shift k p) i = 0 := by
  simp only [co, shift, List.getD_eq_getElem?_getD]
  rw [List.getElem?_append_left (by simpa using h), List.getElem?_replicate]
  simp [h]
theorem co_shift_ge {k i : Nat} {p : P} : co (shift k p) (k + i) = co p i := by
  simp only [co, shift, List.getD_eq_getElem?_getD]
  rw [List.getElem?_append_right (by simp)]
  simp
theorem shift_length (k : Nat) (p : P) : (shift k p).length = k + p.length := by simp [shift]
theorem smul_length (c : Int) (p : P) : (smul c p).length = p.length := by simp [smul]
/-- a list whose coefficients are 0 from n on is cut to n at most -/
theorem trim_length_lt {p : P} {n : Nat} (h : ∀ i, n ≤ i → co p i = 0) : (trim p).length ≤ n := by
  by_cases hz : trim p = []
  · rw [hz]; simp
  · have h1 := lc_ne (tr_trim p) hz
    rw [lc_co hz, co_trim] at h1
    have : ¬ n ≤ (trim p).length - 1 := fun z => h1 (h _ z)
    omega
theorem sub_co_top {l t : P} (hl : l ≠ []) (ht : t ≠ []) (h : t.length ≤ l.length) : ∀ i, l.length - 1 ≤ i → co (add (smul (lc t) l) (shift (l.length - t.length) (smul (-(lc l)) t))) i = 0 := by
  intro i hi
  have h1 : 0 < l.length := List.length_pos_iff.mpr hl
  have h2 : 0 < t.length := List.length_pos_iff.mpr ht
  rw [co_add, co_smul]
  have e : i = (l.length - t.length) + (i - (l.length - t.length)) := by omega
  have es : co (shift (l.length - t.length) (smul (-(lc l)) t)) i = co (smul (-(lc l)) t) (i - (l.length - t.length)) := by
    conv => lhs; rw [e]
    exact co_shift_ge
  rw [es, co_smul]
  by_cases hz : i = l.length - 1
  · have : i - (l.length - t.length) = t.length - 1 := by omega
    rw [this, hz, ← lc_co hl, ← lc_co ht]; grind
  · rw [co_ge (p := l) (by omega), co_ge (p := t) (by omega)]; simp
theorem remStep_spec {l t : P} (hl : l ≠ []) (ht : t ≠ []) (h : t.length ≤ l.length) : Tr (remStep l t) ∧ (remStep l t).length < l.length ∧ (remStep l t = [] ∨ Low (remStep l t)) ∧
    ∃ c, c ≠ 0 ∧ ∀ x, c * ev (remStep l t) x = lc t * ev l x - lc l * x ^ (l.length - t.length) * ev t x := by
  have h1 : 0 < l.length := List.length_pos_iff.mpr hl
  have hlen := trim_length_lt (sub_co_top hl ht h)
  have hev : ∀ x, ev (trim (add (smul (lc t) l) (shift (l.length - t.length) (smul (-(lc l)) t)))) x = lc t * ev l x - lc l * x ^ (l.length - t.length) * ev t x := fun x => by
    rw [ev_trim, ev_add, ev_smul, ev_shift, ev_smul]; grind
  unfold remStep
  generalize hs : trim (add (smul (lc t) l) (shift (l.length - t.length) (smul (-(lc l)) t))) = s at hlen hev
  have ts : Tr s := by rw [← hs]; exact tr_trim _
  refine ⟨prim_tr ts, by rw [prim_length s ts]; omega, ?_, ?_⟩
  · by_cases hz : s = []
    · left; rw [hz, prim_nil]
    · obtain ⟨_, _, _, _, lo⟩ := prim_spec ts hz
      exact .inr lo
  · by_cases hz : s = []
    · refine ⟨1, by omega, fun x => ?_⟩
      rw [← hev x, hz, prim_nil]; simp
    · obtain ⟨c, hc, _, e, _⟩ := prim_spec ts hz
      refine ⟨c, hc, fun x => ?_⟩
      rw [← hev x, ← ev_smul, e]
/-- c l = q t + d r -/
structure Rest (l t r : P) : Prop where
  tr : Tr r
  short : r.length < t.length
  low : r = l ∨ r = [] ∨ Low r
  eqn : ∃ (c d : Int) (q : P), c ≠ 0 ∧ d ≠ 0 ∧ ∀ x, c * ev l x = ev q x * ev t x + d * ev r x
theorem remGo_spec {t : P} (ht : t ≠ []) (tt : Tr t) : ∀ (n : Nat) (l : P), Tr l → l.length < n + t.length → Rest l t (remGo n l t)
  | 0, l, tl, h => ⟨tl, by show l.length < t.length; omega, .inl rfl, 1, 1, [], by omega, by omega, fun x => by simp [remGo]⟩
  | n + 1, l, tl, h => by
    unfold remGo
    split
    · rename_i hle
      have hl : l ≠ [] := by
        intro z; subst z
        simp at hle; exact ht hle
      obtain ⟨s1, s2, s3, e, he, s4⟩ := remStep_spec hl ht hle
      obtain ⟨i1, i2, i3, c, d, q, hc, hd, i4⟩ := remGo_spec ht tt n (remStep l t) s1 (by omega)
      refine ⟨i1, i2, ?_, c * lc t, e * d, add (smul e q) (smul (c * lc l) (shift (l.length - t.length) [1])), Int.mul_ne_zero hc (lc_ne tt ht), Int.mul_ne_zero he hd, fun x => ?_⟩
      · rcases i3 with z | z | z
        · rw [z]
          rcases s3 with w | w
          · exact .inr (.inl w)
          · exact .inr (.inr w)
        · exact .inr (.inl z)
        · exact .inr (.inr z)
      · have h1 := i4 x
        have h2 := s4 x
        simp only [ev_add, ev_smul, ev_shift, ev_cons, ev_nil]
        grind
    · exact ⟨tl, by omega, .inl rfl, 1, 1, [], by omega, by omega, fun x => by simp⟩
theorem rem_spec {a t : P} (ha : a = [] ∨ Low a) (ht : t ≠ []) (tt : Tr t) : Rest a t (rem a t) := by
  have h0 : 0 < t.length := List.length_pos_iff.mpr ht
  unfold rem
  rcases ha with rfl | ha
  · rw [prim_nil]
    exact remGo_spec ht tt _ _ tr_nil (by simp; omega)
  · rw [prim_low ha]
    exact remGo_spec ht tt _ _ ha.tr (by omega)
theorem rem_low {a t : P} (ha : a = [] ∨ Low a) (ht : t ≠ []) (tt : Tr t) : rem a t = [] ∨ Low (rem a t) := by
  rcases (rem_spec ha ht tt).low with z | z | z
  · rw [z]; exact ha
  · exact .inl z
  · exact .inr z

/-- d divides a, with fractions -/
def Dv (d a : P) : Prop := ∃ (c : Int) (q : P), c ≠ 0 ∧ ∀ x, c * ev a x = ev q x * ev d x
/-- g is told by a and b -/
def Bz (a b g : P) : Prop := ∃ (u v : P) (c : Int), c ≠ 0 ∧ ∀ x, ev u x * ev a x + ev v x * ev b x = c * ev g x
theorem gcdGo_spec : ∀ (n : Nat) (a t : P), (a = [] ∨ Low a) → (t = [] ∨ Low t) → (a ≠ [] ∨ t ≠ []) → t.length ≤ n →
    (t = [] → a ≠ []) ∨ True → Low (gcdGo (n + 1) a t) ∧ Dv (gcdGo (n + 1) a t) a ∧ Dv (gcdGo (n + 1) a t) t ∧ Bz a t (gcdGo (n + 1) a t)
  | n, a, t, ha, ht, hn, hl, _ => by
    unfold gcdGo
    split
    · rename_i hz
      subst hz
      have hne : a ≠ [] := by
        rcases hn with h | h
        · exact h
        · exact absurd rfl h
      have la : Low a := by
        rcases ha with h | h
        · exact absurd h hne
        · exact h
      exact ⟨la, ⟨1, [1], by omega, fun x => by simp⟩, ⟨1, [], by omega, fun x => by simp⟩, ⟨[1], [], 1, by omega, fun x => by simp⟩⟩
    · rename_i hz
      have lt : Low t := by
        rcases ht with h | h
        · exact absurd h hz
        · exact h
      have R := rem_spec ha hz lt.tr
      have RL := rem_low ha hz lt.tr
      obtain ⟨r1, r2, r3, c, d, q, hc, hd, he⟩ := R
      cases n with
      | zero =>
        have : t = [] := List.length_eq_zero_iff.mp (by omega)
        exact absurd this hz
      | succ n =>
        obtain ⟨g1, ⟨c2, t1, hc2, e2⟩, ⟨c3, t2, hc3, e3⟩, ⟨u, v, e, hec, e4⟩⟩ := gcdGo_spec n t (rem a t) ht RL (.inl hz) (by omega) (.inr trivial)
        refine ⟨g1, ⟨c * c2 * c3, add (smul c3 (mul q t1)) (smul (d * c2) t2), Int.mul_ne_zero (Int.mul_ne_zero hc hc2) hc3, fun x => ?_⟩, ⟨c2, t1, hc2, e2⟩, ⟨smul c v, add (smul d u) (smul (-1) (mul v q)), d * e, Int.mul_ne_zero hd hec, fun x => ?_⟩⟩
        · have h1 := he x
          have h2 := e2 x
          have h3 := e3 x
          simp only [ev_add, ev_smul, ev_mul]
          grind
        · have h1 := he x
          have h4 := e4 x
          simp only [ev_add, ev_smul, ev_mul]
          grind
theorem gcdP_spec {a b : P} (ta : Tr a) (tb : Tr b) (hn : a ≠ [] ∨ b ≠ []) : Low (gcdP a b) ∧ Dv (gcdP a b) a ∧ Dv (gcdP a b) b ∧ Bz a b (gcdP a b) := by
  have low : ∀ p : P, Tr p → prim p = [] ∨ Low (prim p) := fun p tp => by
    by_cases hp : p = []
    · left; rw [hp, prim_nil]
    · obtain ⟨_, _, _, _, h⟩ := prim_spec tp hp; exact .inr h
  have nz : ∀ p : P, Tr p → p ≠ [] → prim p ≠ [] := fun p tp hp => by
    obtain ⟨_, _, _, _, h⟩ := prim_spec tp hp; exact h.ne
  have mult : ∀ p : P, Tr p → ∃ c, c ≠ 0 ∧ ∀ x, c * ev (prim p) x = ev p x := fun p tp => by
    by_cases hp : p = []
    · exact ⟨1, by omega, fun x => by rw [hp, prim_nil]; simp⟩
    · obtain ⟨c, hc, _, e, _⟩ := prim_spec tp hp
      exact ⟨c, hc, fun x => by rw [← ev_smul, e]⟩
  obtain ⟨ca, hca, ea⟩ := mult a ta
  obtain ⟨cb, hcb, eb⟩ := mult b tb
  obtain ⟨h1, ⟨c1, q1, hc1, e1⟩, ⟨c2, q2, hc2, e2⟩, ⟨u, v, e, he, e3⟩⟩ := gcdGo_spec b.length (prim a) (prim b) (low a ta) (low b tb) (hn.imp (nz a ta) (nz b tb)) (by rw [prim_length b tb]; exact Nat.le_refl _) (.inr trivial)
  refine ⟨h1, ⟨c1, smul ca q1, hc1, fun x => ?_⟩, ⟨c2, smul cb q2, hc2, fun x => ?_⟩, ⟨smul cb u, smul ca v, ca * cb * e, Int.mul_ne_zero (Int.mul_ne_zero hca hcb) he, fun x => ?_⟩⟩
  · have := e1 x; have := ea x; rw [ev_smul]; unfold gcdP; grind
  · have := e2 x; have := eb x; rw [ev_smul]; unfold gcdP; grind
  · have := e3 x; have := ea x; have := eb x; rw [ev_smul, ev_smul]; unfold gcdP; grind
/-- what divides both divides what they tell -/
theorem Dv.of_bz {d a b g : P} (h1 : Dv d a) (h2 : Dv d b) (h : Bz a b g) : Dv d g := by
  obtain ⟨c1, q1, hc1, e1⟩ := h1
  obtain ⟨c2, q2, hc2, e2⟩ := h2
  obtain ⟨u, v, e, he, e3⟩ := h
  refine ⟨c1 * c2 * e, add (smul c2 (mul u q1)) (smul c1 (mul v q2)), Int.mul_ne_zero (Int.mul_ne_zero hc1 hc2) he, fun x => ?_⟩
  have h1 := e1 x; have h2 := e2 x; have h3 := e3 x
  simp only [ev_add, ev_smul, ev_mul]
  grind
theorem Low.dvd_of {p a : P} (hp : Low p) (h : Dv p a) : ∃ q, Tr q ∧ ∀ x, ev a x = ev q x * ev p x := by
  obtain ⟨c, q, hc, e⟩ := h
  exact hp.dvd hc e
/-- two in lowest form that divide each other are one -/
theorem Low.anti {p q : P} (hp : Low p) (hq : Low q) (h1 : Dv p q) (h2 : Dv q p) : p = q := by
  obtain ⟨a, ta, ea⟩ := hp.dvd_of h1
  obtain ⟨b, tb, eb⟩ := hq.dvd_of h2
  have ha : a ≠ [] := by
    rintro rfl
    exact hq.ne (ev_zero_all (N := 0) (fun x _ => by rw [ea x]; simp) hq.tr)
  have hb : b ≠ [] := by
    rintro rfl
    exact hp.ne (ev_zero_all (N := 0) (fun x _ => by rw [eb x]; simp) hp.tr)
  have e1 : Pl.mul a p = q := ext_all (fun x => by rw [ev_mul, ea x]) (tr_mul ta hp.tr ha hp.ne) hq.tr
  have e2 : Pl.mul b q = p := ext_all (fun x => by rw [ev_mul, eb x]) (tr_mul tb hq.tr hb hq.ne) hp.tr
  have l1 := congrArg List.length e1
  have l2 := congrArg List.length e2
  rw [mul_length _ _ ha hp.ne] at l1
  rw [mul_length _ _ hb hq.ne] at l2
  have pa : 0 < a.length := List.length_pos_iff.mpr ha
  have pb : 0 < b.length := List.length_pos_iff.mpr hb
  have pp : 0 < p.length := List.length_pos_iff.mpr hp.ne
  have pq : 0 < q.length := List.length_pos_iff.mpr hq.ne
  obtain ⟨m, rfl⟩ : ∃ m, a = [m] := List.length_eq_one_iff.mp (by omega)
  have hm : m ≠ 0 := by rintro rfl; exact ta rfl
  exact hp.eq hq (a := m) (b := 1) hm (by omega) fun x => by
    have := ea x
    simp only [ev_cons, ev_nil] at this
    rw [this]; simp
/-- the greatest common factor is the only one -/
theorem gcd_unique {a b g : P} (ta : Tr a) (tb : Tr b) (hn : a ≠ [] ∨ b ≠ []) (hg : Low g) (h1 : Dv g a) (h2 : Dv g b) (h3 : Bz a b g) : gcdP a b = g := by
  obtain ⟨k1, k2, k3, k4⟩ := gcdP_spec ta tb hn
  exact k1.anti hg (k2.of_bz k3 h3) (h1.of_bz h2 k4)
end Pl

set_option autoImplicit false
set_option linter.all false
namespace Pl
/-! ### pigeons -/
theorem pigeon : ∀ (M N : Nat) (f : Nat → Nat), M < N → (∀ i, i < N → f i < M) → ∃ i j, i < j ∧ j < N ∧ f i = f j
  | 0, N, f, h, hf => absurd (hf 0 h) (Nat.not_lt_zero _)
  | M + 1, N, f, h, hf => by
    by_cases hx : ∃ i, i < N - 1 ∧ f i = f (N - 1)
    · obtain ⟨i, hi, e⟩ := hx
      exact ⟨i, N - 1, hi, by omega, e⟩
    · have hx' : ∀ i, i < N - 1 → f i ≠ f (N - 1) := fun i hi e => hx ⟨i, hi, e⟩
      -- close the gap at f (N - 1)
      obtain ⟨i, j, h1, h2, h3⟩ := pigeon M (N - 1) (fun i => if f i < f (N - 1) then f i else f i - 1) (by omega) (fun i hi => by
        have := hf i (by omega)
        have := hf (N - 1) (by omega)
        have := hx' i hi
        split <;> omega)
      refine ⟨i, j, h1, by omega, ?_⟩
      have a1 := hx' i (by omega)
      have a2 := hx' j h2
      split at h3 <;> split at h3 <;> omega
/-! ### numbers by their digits -/
def dig (b : Nat) : Nat → Nat → List Nat
  | 0, _ => []
  | n + 1, i => (i % b) :: dig b n (i / b)
theorem dig_length (b : Nat) : ∀ (n i : Nat), (dig b n i).length = n
  | 0, _ => rfl
  | n + 1, i => by rw [dig, List.length_cons, dig_length b n]
theorem dig_lt {b : Nat} (hb : 0 < b) : ∀ (n i : Nat), ∀ x ∈ dig b n i, x < b
  | 0, _, x, h => by simp [dig] at h
  | n + 1, i, x, h => by
    rw [dig, List.mem_cons] at h
    rcases h with rfl | h
    · exact Nat.mod_lt _ hb
    · exact dig_lt hb n _ x h
theorem dig_inj {b : Nat} (hb : 0 < b) : ∀ (n i j : Nat), i < b ^ n → j < b ^ n → dig b n i = dig b n j → i = j
  | 0, i, j, hi, hj, _ => by simp at hi hj; omega
  | n + 1, i, j, hi, hj, h => by
    rw [dig, dig, List.cons.injEq] at h
    have := dig_inj hb n (i / b) (j / b) (Nat.div_lt_of_lt_mul (by rw [Nat.pow_succ, Nat.mul_comm] at hi; exact hi)) (Nat.div_lt_of_lt_mul (by rw [Nat.pow_succ, Nat.mul_comm] at hj; exact hj)) h.2
    have e1 := Nat.div_add_mod i b
    have e2 := Nat.div_add_mod j b
    rw [this, h.1] at e1
    omega
/-- a list of numbers below M, as one number -/
def pack (M : Nat) : List Nat → Nat
  | [] => 0
  | x :: r => x + M * pack M r
theorem pack_lt {M : Nat} (hM : 0 < M) : ∀ (l : List Nat), (∀ x ∈ l, x < M) → pack M l < M ^ l.length
  | [], _ => by simp [pack]
  | x :: r, h => by
    have h1 := h x List.mem_cons_self
    have h2 := pack_lt hM r fun y hy => h y (List.mem_cons_of_mem _ hy)
    rw [pack, List.length_cons, Nat.pow_succ, Nat.mul_comm _ M]
    have : M * (pack M r + 1) ≤ M * M ^ r.length := Nat.mul_le_mul_left M h2
    rw [Nat.mul_add] at this
    omega
theorem pack_inj {M : Nat} : ∀ (l r : List Nat), l.length = r.length → (∀ x ∈ l, x < M) → (∀ x ∈ r, x < M) → pack M l = pack M r → l = r
  | [], [], _, _, _, _ => rfl
  | [], _ :: _, h, _, _, _ => by simp at h
  | _ :: _, [], h, _, _, _ => by simp at h
  | x :: l, y :: r, h, hl, hr, e => by
    have h1 := hl x List.mem_cons_self
    have h2 := hr y List.mem_cons_self
    rw [pack, pack] at e
    have hx : x = y := by
      have := congrArg (· % M) e
      simpa [Nat.add_mul_mod_self_left, Nat.mod_eq_of_lt h1, Nat.mod_eq_of_lt h2] using this
    subst hx
    have hp : pack M l = pack M r := Nat.eq_of_mul_eq_mul_left (by omega : 0 < M) (by omega)
    rw [pack_inj l r (by simpa using h) (fun z hz => hl z (List.mem_cons_of_mem _ hz)) (fun z hz => hr z (List.mem_cons_of_mem _ hz)) hp]

/-! ### sizes -/
def Bd (p : P) (B : Nat) : Prop := ∀ k, (co p k).natAbs ≤ B
theorem Bd.mono {p : P} {A B : Nat} (h : Bd p A) (hab : A ≤ B) : Bd p B := fun k => Nat.le_trans (h k) hab
theorem Bd.add {p q : P} {A B : Nat} (hp : Bd p A) (hq : Bd q B) : Bd (Pl.add p q) (A + B) := fun k => by
  rw [co_add]
  have := hp k; have := hq k; omega
theorem Bd.smul {c : Int} {p : P} {A : Nat} (hp : Bd p A) : Bd (Pl.smul c p) (c.natAbs * A) := fun k => by
  rw [co_smul, Int.natAbs_mul]
  exact Nat.mul_le_mul_left _ (hp k)
theorem Bd.cons {a : Int} {p : P} {A : Nat} (ha : a.natAbs ≤ A) (hp : Bd p A) : Bd (a :: p) A := fun k => by
  cases k with
  | zero => simpa using ha
  | succ k => simpa using hp k
theorem Bd.zcons {p : P} {A : Nat} (hp : Bd p A) : Bd (0 :: p) A := Bd.cons (by simp) hp
theorem Bd.nil (A : Nat) : Bd [] A := fun k => by simp
theorem Bd.tail {a : Int} {p : P} {A : Nat} (h : Bd (a :: p) A) : Bd p A := fun k => by simpa using h (k + 1)
theorem Bd.head {a : Int} {p : P} {A : Nat} (h : Bd (a :: p) A) : a.natAbs ≤ A := by simpa using h 0
theorem Bd.mul : ∀ {p q : P} {A B : Nat}, Bd p A → Bd q B → Bd (Pl.mul p q) (p.length * (A * B))
  | [], q, A, B, _, _ => by simp [Pl.mul]; exact Bd.nil _
  | a :: p, q, A, B, hp, hq => by
    have ih := Bd.mul hp.tail hq
    have h1 : Bd (Pl.smul a q) (A * B) := (Bd.smul hq).mono (Nat.mul_le_mul_right _ hp.head)
    have := h1.add ih.zcons
    rw [Pl.mul, List.length_cons, Nat.succ_mul]
    exact this.mono (by omega)

/-! ### a small solution (Siegel) -/
/-- the i-th pair of polynomials with s numbers from 0 to H each -/
def pairOf (H s i : Nat) : P × P := (((dig (H + 1) (2 * s) i).take s).map fun (n : Nat) => (n : Int), ((dig (H + 1) (2 * s) i).drop s).map fun (n : Nat) => (n : Int))
theorem bd_nats {l : List Nat} {H : Nat} (h : ∀ x ∈ l, x < H + 1) : Bd (l.map fun (n : Nat) => (n : Int)) H := fun k => by
  by_cases hk : k < l.length
  · rw [co_lt (by simpa using hk), List.getElem_map]
    have := h _ (List.getElem_mem hk)
    simp; omega
  · rw [co_ge (by simp; omega)]; simp
theorem small_pair {a b : P} {A B s lo E : Nat} (ha : Bd a A) (hb : Bd b B) (hs : 0 < s) (hAB : 0 < A + B) (hE : E + 1 = 2 * s) :
    ∃ u v : P, u.length ≤ s ∧ v.length ≤ s ∧ Bd u ((2 * s * (A + B)) ^ E) ∧ Bd v ((2 * s * (A + B)) ^ E) ∧ (∃ k, co u k ≠ 0 ∨ co v k ≠ 0) ∧
      ∀ j, lo ≤ j → j < lo + E → co (add (mul u a) (mul v b)) j = 0 := by
  generalize hS : 2 * s * (A + B) = S
  have hS0 : 0 < S := by rw [← hS]; exact Nat.mul_pos (by omega) hAB
  generalize hH : S ^ E = H
  have hb0 : ∀ i, ∀ x ∈ dig (H + 1) (2 * s) i, x < H + 1 := fun i => dig_lt (by omega) _ _
  -- the size of what they tell
  have hsz : ∀ i, Bd (add (mul (pairOf H s i).1 a) (mul (pairOf H s i).2 b)) (s * (H * (A + B))) := fun i => by
    have u1 : Bd (pairOf H s i).1 H := bd_nats fun x hx => hb0 i x (List.mem_of_mem_take hx)
    have v1 : Bd (pairOf H s i).2 H := bd_nats fun x hx => hb0 i x (List.mem_of_mem_drop hx)
    have lu : (pairOf H s i).1.length ≤ s := by simp [pairOf]; omega
    have lv : (pairOf H s i).2.length ≤ s := by simp [pairOf, dig_length]; omega
    refine ((u1.mul ha).add (v1.mul hb)).mono ?_
    have e1 : (pairOf H s i).1.length * (H * A) ≤ s * (H * A) := Nat.mul_le_mul_right _ lu
    have e2 : (pairOf H s i).2.length * (H * B) ≤ s * (H * B) := Nat.mul_le_mul_right _ lv
    rw [Nat.mul_add, Nat.mul_add]
    omega
  let code : Nat → Nat := fun i => pack ((H + 1) * S) ((List.range E).map fun j => (co (add (mul (pairOf H s i).1 a) (mul (pairOf H s i).2 b)) (lo + j) + ((s * (H * (A + B)) : Nat) : Int)).toNat)
  have hM : 2 * (s * (H * (A + B))) + 1 ≤ (H + 1) * S := by
    have : 2 * (s * (H * (A + B))) = H * S := by rw [← hS]; grind
    rw [this, Nat.succ_mul]
    omega
  have hitem : ∀ i, ∀ x ∈ (List.range E).map (fun j => (co (add (mul (pairOf H s i).1 a) (mul (pairOf H s i).2 b)) (lo + j) + ((s * (H * (A + B)) : Nat) : Int)).toNat), x < (H + 1) * S := by
    intro i x hx
    obtain ⟨j, _, rfl⟩ := List.mem_map.mp hx
    have := hsz i (lo + j)
    omega
  have hcode : ∀ i, i < (H + 1) ^ (2 * s) → code i < ((H + 1) * S) ^ E := fun i _ => by
    have := pack_lt (M := (H + 1) * S) (Nat.mul_pos (by omega) hS0) _ (hitem i)
    rw [List.length_map, List.length_range] at this
    exact this
  have hcount : ((H + 1) * S) ^ E < (H + 1) ^ (2 * s) := by
    rw [← hE, Nat.pow_succ, Nat.mul_pow, hH]
    exact Nat.mul_lt_mul_of_pos_left (by omega) (Nat.pow_pos (by omega))
  obtain ⟨i, j, hij, hj, he⟩ := pigeon _ _ code hcount hcode
  have hlists := pack_inj _ _ (by simp) (hitem i) (hitem j) he
  refine ⟨add (pairOf H s i).1 (smul (-1) (pairOf H s j).1), add (pairOf H s i).2 (smul (-1) (pairOf H s j).2), ?_, ?_, ?_, ?_, ?_, ?_⟩
  · rw [add_length, smul_length]; simp [pairOf]; omega
  · rw [add_length, smul_length]; simp [pairOf, dig_length]; omega
  · intro k
    rw [co_add, co_smul]
    have c1 : ∀ i k, 0 ≤ co (pairOf H s i).1 k ∧ co (pairOf H s i).1 k ≤ H := fun i k => by
      have hb : Bd (pairOf H s i).1 H := bd_nats fun x hx => hb0 i x (List.mem_of_mem_take hx)
      have h1 := hb k
      have h2 : 0 ≤ co (pairOf H s i).1 k := by
        by_cases hk : k < (pairOf H s i).1.length
        · rw [co_lt hk]; simp [pairOf]
        · rw [co_ge (by omega)]; omega
      omega
    have := c1 i k; have := c1 j k; omega
  · intro k
    rw [co_add, co_smul]
    have c1 : ∀ i k, 0 ≤ co (pairOf H s i).2 k ∧ co (pairOf H s i).2 k ≤ H := fun i k => by
      have hb : Bd (pairOf H s i).2 H := bd_nats fun x hx => hb0 i x (List.mem_of_mem_drop hx)
      have h1 := hb k
      have h2 : 0 ≤ co (pairOf H s i).2 k := by
        by_cases hk : k < (pairOf H s i).2.length
        · rw [co_lt hk]; simp [pairOf]
        · rw [co_ge (by omega)]; omega
      omega
    have := c1 i k; have := c1 j k; omega
  · refine Classical.byContradiction fun hn => ?_
    have hz : ∀ k, co (pairOf H s i).1 k = co (pairOf H s j).1 k ∧ co (pairOf H s i).2 k = co (pairOf H s j).2 k := fun k => by
      constructor
      · refine Classical.byContradiction fun h => hn ⟨k, .inl ?_⟩
        rw [co_add, co_smul]; omega
      · refine Classical.byContradiction fun h => hn ⟨k, .inr ?_⟩
        rw [co_add, co_smul]; omega
    have hd : dig (H + 1) (2 * s) i = dig (H + 1) (2 * s) j := by
      apply List.ext_getElem
      · rw [dig_length, dig_length]
      · intro k h1 h2
        rw [dig_length] at h1 h2
        by_cases hk : k < s
        · have := (hz k).1
          rw [co_lt (by simp [pairOf, dig_length]; omega), co_lt (by simp [pairOf, dig_length]; omega)] at this
          exact Int.ofNat.inj (by simpa [pairOf] using this)
        · have := (hz (k - s)).2
          rw [co_lt (by simp [pairOf, dig_length]; omega), co_lt (by simp [pairOf, dig_length]; omega)] at this
          simp only [pairOf, List.getElem_map, List.getElem_drop] at this
          have ek : s + (k - s) = k := by omega
          simp only [ek] at this
          exact Int.ofNat.inj (by simpa using this)
    have := dig_inj (by omega) _ i j (by omega) hj hd
    omega
  · intro k hk1 hk2
    have hj' : (List.range E)[k - lo]? = some (k - lo) := by
      rw [List.getElem?_range (by omega)]
    have e1 := congrArg (fun l => l[k - lo]?) hlists
    simp only [List.getElem?_map, hj', Option.map_some, Option.some.injEq] at e1
    have ek : lo + (k - lo) = k := by omega
    rw [ek] at e1
    have s1 := hsz i k
    have s2 := hsz j k
    have e2 : co (add (mul (pairOf H s i).1 a) (mul (pairOf H s i).2 b)) k = co (add (mul (pairOf H s j).1 a) (mul (pairOf H s j).2 b)) k := by omega
    have e3 : co (add (mul (add (pairOf H s i).1 (smul (-1) (pairOf H s j).1)) a) (mul (add (pairOf H s i).2 (smul (-1) (pairOf H s j).2)) b)) k
        = co (add (add (mul (pairOf H s i).1 a) (mul (pairOf H s i).2 b)) (smul (-1) (add (mul (pairOf H s j).1 a) (mul (pairOf H s j).2 b)))) k := by
      apply co_ext
      intro x
      simp only [ev_add, ev_mul, ev_smul]
      grind
    rw [e3, co_add, co_smul, e2]
    omega
end Pl

set_option autoImplicit false
set_option linter.all false
namespace Pl
theorem trim_ne_of {p : P} {k : Nat} (h : co p k ≠ 0) : trim p ≠ [] := fun z => h (by rw [← co_trim, z, co_nil])
theorem ev0_of_co {p : P} (h : ∀ k, co p k = 0) (x : Int) : ev p x = 0 := by
  have := ev_ext_co (p := p) (q := []) (fun k => by rw [h k]; simp) x
  simpa using this
theorem len_ev {p q : P} (tp : Tr p) (tq : Tr q) (h : ∀ x, ev p x = ev q x) : p.length = q.length := by rw [ext_all h tp tq]
/-- the second to last of the remainders, a pair of them, told by the first two -/
structure Told (a b r1 r2 : P) : Prop where
  le : r2.length ≤ r1.length
  eqn : ∃ (u1 v1 u2 v2 : P) (e1 e2 D : Int), e1 ≠ 0 ∧ e2 ≠ 0 ∧ D ≠ 0 ∧
    (∀ x, ev u1 x * ev a x + ev v1 x * ev b x = e1 * ev r1 x) ∧ (∀ x, ev u2 x * ev a x + ev v2 x * ev b x = e2 * ev r2 x) ∧
    (∀ x, ev u1 x * ev v2 x - ev u2 x * ev v1 x = D) ∧ Tr v2 ∧ v2 ≠ [] ∧ v2.length + r1.length = a.length + 1 ∧
    v1.length + r2.length ≤ a.length ∧ u1.length + r2.length ≤ a.length + 1 ∧ u2.length + r1.length ≤ a.length + 1
theorem told_first {a b : P} (h : b.length ≤ a.length) : Told a b a b := ⟨h, [1], [], [], [1], 1, 1, 1, by omega, by omega, by omega, fun x => by simp, fun x => by simp, fun x => by simp, by simp [Tr], by simp, by simp; omega, by simp; omega, by simp; omega, by simp⟩
theorem told_next {a b r1 r2 : P} (h : Told a b r1 r2) (l1 : r1 = [] ∨ Low r1) (h2 : r2 ≠ []) (t2 : Low r2) : Told a b r2 (rem r1 r2) ∧ (rem r1 r2).length < r2.length := by
  have t1 : Tr r1 := by
    rcases l1 with rfl | l1
    · exact tr_nil
    · exact l1.tr
  obtain ⟨hle, u1, v1, u2, v2, e1, e2, D, he1, he2, hD, q1, q2, q3, tv2, nv2, lv2, lv1, lu1, lu2⟩ := h
  obtain ⟨tr, short, _, c, d, q, hc, hd, eq⟩ := rem_spec l1 h2 t2.tr
  have p2 : 0 < r2.length := List.length_pos_iff.mpr h2
  have nr1 : r1 ≠ [] := by intro z; subst z; simp at hle; exact h2 hle
  -- the quotient is trimmed, its length known
  have eq' : ∀ x, c * ev r1 x = ev (trim q) x * ev r2 x + d * ev (rem r1 r2) x := fun x => by rw [ev_trim]; exact eq x
  have lq : (trim q) ≠ [] ∧ (trim q).length + r2.length = r1.length + 1 := by
    have nq : trim q ≠ [] := by
      intro z
      -- then c r1 = d r, too short
      have e := len_ev (tr_smul hc t1) (tr_smul hd tr) (fun x => by
        have := eq' x
        rw [z] at this
        simp only [ev_nil, Int.zero_mul, Int.zero_add] at this
        rw [ev_smul, ev_smul]; exact this)
      rw [smul_length, smul_length] at e
      omega
    have tm := tr_mul (tr_trim q) t2.tr nq h2
    have e : smul c r1 = trim (add (mul (trim q) r2) (smul d (rem r1 r2))) := ext_all (fun x => by
      rw [ev_trim, ev_smul, ev_add, ev_mul, ev_smul]; exact eq' x) (tr_smul hc t1) (tr_trim _)
    have lm := mul_length (trim q) r2 nq h2
    have pq : 0 < (trim q).length := List.length_pos_iff.mpr nq
    -- the top coefficient of the product stands alone
    have top : co (add (mul (trim q) r2) (smul d (rem r1 r2))) ((mul (trim q) r2).length - 1) ≠ 0 := by
      rw [co_add, ← lc_co (mul_ne nq h2), co_ge (p := smul d (rem r1 r2)) (by rw [smul_length]; omega), Int.add_zero]
      exact lc_ne tm (mul_ne nq h2)
    have l1 : (mul (trim q) r2).length - 1 < r1.length := by
      refine Classical.byContradiction fun hn => top ?_
      rw [← co_trim, ← e]
      exact co_ge (by rw [smul_length]; omega)
    have l2 : (trim (add (mul (trim q) r2) (smul d (rem r1 r2)))).length ≤ (mul (trim q) r2).length := by
      refine Nat.le_trans (trim_length_le _) ?_
      rw [add_length, smul_length]
      omega
    rw [← e, smul_length] at l2
    exact ⟨nq, by omega⟩
  obtain ⟨nq, lq⟩ := lq
  have pq : 0 < (trim q).length := List.length_pos_iff.mpr nq
  have pv : 0 < v2.length := List.length_pos_iff.mpr nv2
  have lqv := mul_length (trim q) v2 nq nv2
  have tqv := tr_mul (tr_trim q) tv2 nq nv2
  have hce : c * e2 ≠ 0 := Int.mul_ne_zero hc he2
  refine ⟨⟨by omega, u2, v2, trim (add (smul (c * e2) u1) (smul (-e1) (mul (trim q) u2))), trim (add (smul (c * e2) v1) (smul (-e1) (mul (trim q) v2))), e2, e1 * e2 * d, -(c * e2 * D), he2, Int.mul_ne_zero (Int.mul_ne_zero he1 he2) hd, ?_, q2, fun x => ?_, fun x => ?_, tr_trim _, ?_, ?_, ?_, ?_, ?_⟩, short⟩
  · have := Int.mul_ne_zero hce hD; omega
  · have a1 := q1 x; have a2 := q2 x; have a3 := eq' x
    simp only [ev_trim, ev_add, ev_smul, ev_mul] at a3 ⊢
    grind
  · have a3 := q3 x
    simp only [ev_trim, ev_add, ev_smul, ev_mul]
    grind
  · -- the top of q v2
    have top : co (add (smul (c * e2) v1) (smul (-e1) (mul (trim q) v2))) ((mul (trim q) v2).length - 1) ≠ 0 := by
      rw [co_add, co_smul, co_smul, co_ge (p := v1) (by omega), ← lc_co (mul_ne nq nv2)]
      have := lc_ne tqv (mul_ne nq nv2)
      have := Int.mul_ne_zero (a := -e1) (by omega) this
      omega
    exact trim_ne_of top
  · have top : co (add (smul (c * e2) v1) (smul (-e1) (mul (trim q) v2))) ((mul (trim q) v2).length - 1) ≠ 0 := by
      rw [co_add, co_smul, co_smul, co_ge (p := v1) (by omega), ← lc_co (mul_ne nq nv2)]
      have := lc_ne tqv (mul_ne nq nv2)
      have := Int.mul_ne_zero (a := -e1) (by omega) this
      omega
    have ge : ¬ (trim (add (smul (c * e2) v1) (smul (-e1) (mul (trim q) v2)))).length ≤ (mul (trim q) v2).length - 1 := fun z => top (by rw [← co_trim]; exact co_ge z)
    have le : (trim (add (smul (c * e2) v1) (smul (-e1) (mul (trim q) v2)))).length ≤ (mul (trim q) v2).length := by
      refine Nat.le_trans (trim_length_le _) ?_
      rw [add_length, smul_length, smul_length]
      omega
    omega
  · omega
  · omega
  · refine Nat.le_trans (Nat.add_le_add_right (trim_length_le _) _) ?_
    rw [add_length, smul_length, smul_length]
    by_cases hu : u2 = []
    · subst hu
      have : (mul (trim q) []).length ≤ (trim q).length := by
        have : ∀ p : P, (mul p []).length ≤ p.length := by
          intro p
          induction p with
          | nil => simp [mul]
          | cons a p ih => simp only [mul, smul, List.map_nil, add, List.length_cons]; omega
        exact this _
      omega
    · have := mul_length (trim q) u2 nq hu
      omega
/-- the numbers of a remainder in lowest form are small -/
theorem told_small {a b r1 r2 : P} {A B : Nat} (ta : Tr a) (na : a ≠ []) (ha : Bd a A) (hb : Bd b B) (hAB : 0 < A + B) (hba : b.length ≤ a.length) (h : Told a b r1 r2) (h12 : r2.length < r1.length) (l2 : Low r2) :
    Bd r2 ((2 * a.length * (A + B)) ^ (2 * a.length)) := by
  obtain ⟨hle, u1, v1, u2, v2, e1, e2, D, he1, he2, hD, q1, q2, q3, tv2, nv2, lv2, lv1, lu1, lu2⟩ := h
  have pv : 0 < v2.length := List.length_pos_iff.mpr nv2
  have pa : 0 < a.length := List.length_pos_iff.mpr na
  obtain ⟨u, v, hu, hv, bu, bv, hne, hz⟩ := small_pair (s := v2.length) (lo := r1.length - 1) (E := 2 * v2.length - 1) ha hb pv hAB (by omega)
  generalize hh : trim (add (mul u a) (mul v b)) = g
  have evg : ∀ x, ev g x = ev u x * ev a x + ev v x * ev b x := fun x => by rw [← hh, ev_trim, ev_add, ev_mul, ev_mul]
  have tg : Tr g := by rw [← hh]; exact tr_trim _
  have lg : g.length ≤ r1.length - 1 := by
    rw [← hh]
    refine trim_length_lt fun i hi => ?_
    by_cases hi2 : i < r1.length - 1 + (2 * v2.length - 1)
    · exact hz i hi hi2
    · have l1 : (mul u a).length ≤ v2.length + a.length - 1 := by
        by_cases z : u = []
        · subst z; simp [mul]
        · rw [mul_length _ _ z na]; omega
      have l2 : (mul v b).length ≤ v2.length + a.length - 1 := by
        by_cases z : v = []
        · subst z; simp [mul]
        · by_cases z2 : b = []
          · subst z2
            have : ∀ p : P, (mul p []).length ≤ p.length := by
              intro p
              induction p with
              | nil => simp [mul]
              | cons a p ih => simp only [mul, smul, List.map_nil, add, List.length_cons]; omega
            have := this v; omega
          · rw [mul_length _ _ z z2]; omega
      rw [co_add, co_ge (p := mul u a) (by omega), co_ge (p := mul v b) (by omega)]; rfl
  -- u v2 = u2 v
  have cross : ∀ x, ev u x * ev v2 x = ev u2 x * ev v x := by
    -- (u v2 - u2 v) a = g v2 - e2 r2 v
    have e : ∀ x, (ev u x * ev v2 x - ev u2 x * ev v x) * ev a x = ev g x * ev v2 x - e2 * ev r2 x * ev v x := fun x => by
      have := evg x; have := q2 x; grind
    generalize hw : trim (add (mul u v2) (smul (-1) (mul u2 v))) = w at *
    have evw : ∀ x, ev w x = ev u x * ev v2 x - ev u2 x * ev v x := fun x => by rw [← hw, ev_trim, ev_add, ev_smul, ev_mul, ev_mul]; omega
    have tw : Tr w := by rw [← hw]; exact tr_trim _
    by_cases nw : w = []
    · intro x
      have := evw x
      rw [nw, ev_nil] at this
      omega
    · exfalso
      have e2' : mul w a = trim (add (mul g v2) (smul (-e2) (mul r2 v))) := ext_all (fun x => by
        rw [ev_trim, ev_mul, evw, ev_add, ev_smul, ev_mul, ev_mul, e x]; grind) (tr_mul tw ta nw na) (tr_trim _)
      have l := congrArg List.length e2'
      rw [mul_length _ _ nw na] at l
      have pw : 0 < w.length := List.length_pos_iff.mpr nw
      have m1 : (mul g v2).length ≤ a.length - 1 := by
        by_cases z : g = []
        · subst z; simp [mul]
        · rw [mul_length _ _ z nv2]; omega
      have m2 : (mul r2 v).length ≤ a.length - 1 := by
        by_cases z : v = []
        · subst z
          have : ∀ p : P, (mul p []).length ≤ p.length := by
            intro p
            induction p with
            | nil => simp [mul]
            | cons a p ih => simp only [mul, smul, List.map_nil, add, List.length_cons]; omega
          have := this r2; omega
        · rw [mul_length _ _ l2.ne z]; omega
      have := trim_length_le (add (mul g v2) (smul (-e2) (mul r2 v)))
      rw [add_length, smul_length] at this
      omega
  generalize hw : trim (add (mul u1 v) (smul (-1) (mul v1 u))) = w
  have evw : ∀ x, ev w x = ev u1 x * ev v x - ev v1 x * ev u x := fun x => by rw [← hw, ev_trim, ev_add, ev_smul, ev_mul, ev_mul]; omega
  have tw : Tr w := by rw [← hw]; exact tr_trim _
  have dv : ∀ x, D * ev v x = ev v2 x * ev w x := fun x => by have := q3 x; have := cross x; have := evw x; grind
  have du : ∀ x, D * ev u x = ev u2 x * ev w x := fun x => by have := q3 x; have := cross x; have := evw x; grind
  have nw : w ≠ [] := by
    intro z
    obtain ⟨k, hk⟩ := hne
    have hu0 : ∀ k, co u k = 0 := fun k => by
      have : ∀ x, ev (smul D u) x = ev [] x := fun x => by rw [ev_smul, du x, z]; simp
      have := co_ext this k
      rw [co_smul, co_nil] at this
      exact (Int.mul_eq_zero.mp this).resolve_left hD
    have hv0 : ∀ k, co v k = 0 := fun k => by
      have : ∀ x, ev (smul D v) x = ev [] x := fun x => by rw [ev_smul, dv x, z]; simp
      have := co_ext this k
      rw [co_smul, co_nil] at this
      exact (Int.mul_eq_zero.mp this).resolve_left hD
    rcases hk with hk | hk
    · exact hk (hu0 k)
    · exact hk (hv0 k)
  have w1 : w.length = 1 := by
    have e : trim (smul D v) = mul v2 w := ext_all (fun x => by rw [ev_trim, ev_smul, ev_mul, dv x]) (tr_trim _) (tr_mul tv2 tw nv2 nw)
    have l := congrArg List.length e
    rw [mul_length _ _ nv2 nw] at l
    have := trim_length_le (smul D v)
    rw [smul_length] at this
    have : 0 < w.length := List.length_pos_iff.mpr nw
    omega
  obtain ⟨W, rfl⟩ : ∃ W, w = [W] := List.length_eq_one_iff.mp w1
  have hW : W ≠ 0 := by rintro rfl; exact tw rfl
  -- D g = (W e2) r2
  have eg : smul D g = smul (W * e2) r2 := ext_all (fun x => by
    have := evg x; have := dv x; have := du x; have := q2 x
    simp only [ev_smul, ev_cons, ev_nil] at *
    grind) (tr_smul hD tg) (tr_smul (Int.mul_ne_zero hW he2) l2.tr)
  have cg := congrArg content eg
  rw [content_smul, content_smul, l2.one, Int.mul_one] at cg
  have bg : Bd g (v2.length * ((2 * v2.length * (A + B)) ^ (2 * v2.length - 1) * (A + B))) := by
    intro k
    rw [← hh, co_trim]
    have h1 := ((bu.mul ha).add (bv.mul hb)) k
    have e1 : u.length * ((2 * v2.length * (A + B)) ^ (2 * v2.length - 1) * A) ≤ v2.length * ((2 * v2.length * (A + B)) ^ (2 * v2.length - 1) * A) := Nat.mul_le_mul_right _ hu
    have e2 : v.length * ((2 * v2.length * (A + B)) ^ (2 * v2.length - 1) * B) ≤ v2.length * ((2 * v2.length * (A + B)) ^ (2 * v2.length - 1) * B) := Nat.mul_le_mul_right _ hv
    rw [Nat.mul_add, Nat.mul_add]
    omega
  have hcg : content g ≠ 0 := by
    intro z
    rw [z, Int.mul_zero] at cg
    have := Int.mul_ne_zero hW he2
    omega
  have hcg1 := content_nonneg g
  intro k
  have hk := congrArg (fun p => (co p k).natAbs) eg
  simp only [co_smul, Int.natAbs_mul] at hk
  have hn : (W * e2).natAbs = D.natAbs * (content g).natAbs := by
    have : ((W * e2).natAbs : Int) = ((D.natAbs * (content g).natAbs : Nat) : Int) := by
      rw [← cg, Int.natCast_mul, Int.natAbs_of_nonneg hcg1]
    exact Int.ofNat.inj this
  rw [Int.natAbs_mul] at hn
  rw [hn, Nat.mul_assoc] at hk
  have hD' : 0 < D.natAbs := by omega
  have hk2 : (co g k).natAbs = (content g).natAbs * (co r2 k).natAbs := Nat.eq_of_mul_eq_mul_left hD' hk
  have h3 : (co r2 k).natAbs ≤ (co g k).natAbs := by
    rw [hk2]
    exact Nat.le_mul_of_pos_left _ (by omega)
  have h4 := bg k
  have h5 : v2.length * ((2 * v2.length * (A + B)) ^ (2 * v2.length - 1) * (A + B)) ≤ (2 * v2.length * (A + B)) ^ (2 * v2.length) := by
    have e1 : 2 * v2.length = (2 * v2.length - 1) + 1 := by omega
    conv => rhs; rw [e1, Nat.pow_succ]
    have e2 : v2.length * ((2 * v2.length * (A + B)) ^ (2 * v2.length - 1) * (A + B)) = (2 * v2.length * (A + B)) ^ (2 * v2.length - 1) * (v2.length * (A + B)) := by grind
    rw [e2]
    have e3 : 2 * v2.length - 1 + 1 = 2 * v2.length := by omega
    rw [e3]
    refine Nat.mul_le_mul_left _ (Nat.mul_le_mul_right _ (by omega))
  have h6 : (2 * v2.length * (A + B)) ^ (2 * v2.length) ≤ (2 * a.length * (A + B)) ^ (2 * a.length) := by
    have hv : v2.length ≤ a.length := by omega
    refine Nat.le_trans (Nat.pow_le_pow_left (Nat.mul_le_mul_right _ (by omega)) _) (Nat.pow_le_pow_right (Nat.mul_pos (by omega) hAB) (by omega))
  omega
end Pl

set_option autoImplicit false
set_option linter.all false
namespace Pl
theorem Bd.trim {p : P} {A : Nat} (h : Bd p A) : Bd (Pl.trim p) A := fun k => by rw [co_trim]; exact h k
theorem Bd.shift {p : P} {A : Nat} (h : Bd p A) (n : Nat) : Bd (Pl.shift n p) A := fun k => by
  by_cases hk : k < n
  · rw [co_shift_lt hk]; simp
  · have e : k = n + (k - n) := by omega
    rw [e, co_shift_ge]; exact h _
theorem Bd.lc {p : P} {A : Nat} (h : Bd p A) : (Pl.lc p).natAbs ≤ A := by
  by_cases hp : p = []
  · subst hp; simp [Pl.lc]
  · rw [lc_co hp]; exact h _
theorem Bd.prim {p : P} {A : Nat} (tp : Tr p) (h : Bd p A) : Bd (Pl.prim p) A := by
  by_cases hp : p = []
  · subst hp; rw [prim_nil]; exact h
  · obtain ⟨c, hc, _, e, _⟩ := prim_spec tp hp
    intro k
    have h1 := h k
    rw [← e, co_smul, Int.natAbs_mul] at h1
    have : 1 ≤ c.natAbs := by omega
    exact Nat.le_trans (Nat.le_mul_of_pos_left _ this) h1
theorem Bd.remStep {l t : P} {e s : Nat} (hl : Bd l (2 ^ e)) (ht : Bd t (2 ^ s)) : Bd (Pl.remStep l t) (2 ^ (e + s + 1)) := by
  unfold Pl.remStep
  apply Bd.prim (tr_trim _)
  apply Bd.trim
  have h1 : Bd (Pl.smul (Pl.lc t) l) (2 ^ (e + s)) := (Bd.smul (c := Pl.lc t) hl).mono (by
    rw [Nat.pow_add, Nat.mul_comm]; exact Nat.mul_le_mul_left _ ht.lc)
  have h2 : Bd (Pl.smul (-(Pl.lc l)) t) (2 ^ (e + s)) := (Bd.smul (c := -(Pl.lc l)) ht).mono (by
    rw [Nat.pow_add, Int.natAbs_neg]; exact Nat.mul_le_mul_right _ hl.lc)
  exact (h1.add (h2.shift _)).mono (by rw [Nat.pow_succ]; omega)
theorem remGo_stop {n : Nat} {l t : P} (h : l.length < t.length) : remGo n l t = l := by
  cases n with
  | zero => rfl
  | succ n => rw [remGo, if_neg (by omega)]
theorem remGo_go {n : Nat} {l t : P} (h : t.length ≤ l.length) : remGo (n + 1) l t = remGo n (remStep l t) t := by rw [remGo, if_pos h]
theorem prim_own {a : P} (h : a = [] ∨ Low a) : prim a = a := by
  rcases h with rfl | h
  · exact prim_nil
  · exact prim_low h
end Pl

set_option autoImplicit false
set_option linter.all false
namespace Pl
/-- the pairs that the Euclid of p and q meets -/
structure GS (p q : P) (N s : Nat) (r1 r2 : P) : Prop where
  l1 : r1 = [] ∨ Low r1
  l2 : r2 = [] ∨ Low r2
  b1 : Bd r1 (2 ^ s)
  b2 : Bd r2 (2 ^ s)
  n1 : r1.length ≤ N
  n2 : r2.length ≤ N
  told : (r1 = p ∧ r2 = q) ∨ ∃ u v, ((u = p ∧ v = q) ∨ (u = q ∧ v = p)) ∧ u ≠ [] ∧ v.length ≤ u.length ∧ Told u v r1 r2
theorem low_tr {p : P} (h : p = [] ∨ Low p) : Tr p := by
  rcases h with rfl | h
  · exact tr_nil
  · exact h.tr
theorem pow_bits {m c N k : Nat} (hm : m ≤ N) (hN : N ≤ 1000) (hk : (c + 12) * (2 * N) ≤ k) : (2 * m * (2 ^ c + 2 ^ c)) ^ (2 * m) ≤ 2 ^ k := by
  have h1 : 2 * m * (2 ^ c + 2 ^ c) ≤ 2 ^ (c + 12) := by
    have : 2 ^ c + 2 ^ c = 2 ^ (c + 1) := by rw [Nat.pow_succ]; omega
    rw [this]
    have e : 2 ^ (c + 12) = 2 ^ 11 * 2 ^ (c + 1) := by rw [← Nat.pow_add]; congr 1; omega
    rw [e]
    exact Nat.mul_le_mul_right _ (by omega)
  refine Nat.le_trans (Nat.pow_le_pow_left h1 _) ?_
  rw [← Nat.pow_mul]
  exact Nat.pow_le_pow_right (by omega) (Nat.le_trans (Nat.mul_le_mul_left _ (by omega)) hk)
theorem GS.next {p q r1 r2 : P} {N c s : Nat} (hN : N ≤ 1000) (hs : (c + 12) * (2 * N) ≤ s) (lp : p = [] ∨ Low p) (lq : q = [] ∨ Low q) (np : p.length ≤ N) (nq : q.length ≤ N) (bp : Bd p (2 ^ c)) (bq : Bd q (2 ^ c)) (h : GS p q N s r1 r2) (h2 : r2 ≠ []) :
    GS p q N s r2 (rem r1 r2) ∧ (rem r1 r2).length < r2.length := by
  have t2 : Low r2 := by
    rcases h.l2 with z | z
    · exact absurd z h2
    · exact z
  have R := rem_spec h.l1 h2 t2.tr
  have RL := rem_low h.l1 h2 t2.tr
  have key : ∀ u v : P, ((u = p ∧ v = q) ∨ (u = q ∧ v = p)) → u ≠ [] → v.length ≤ u.length → Told u v r1 r2 → GS p q N s r2 (rem r1 r2) ∧ (rem r1 r2).length < r2.length := by
    intro u v huv hu hvu T
    obtain ⟨T', sh⟩ := told_next T h.l1 h2 t2
    have lu : u = [] ∨ Low u := by rcases huv with ⟨rfl, rfl⟩ | ⟨rfl, rfl⟩ <;> assumption
    have nu : u.length ≤ N := by rcases huv with ⟨rfl, rfl⟩ | ⟨rfl, rfl⟩ <;> assumption
    have bu : Bd u (2 ^ c) := by rcases huv with ⟨rfl, rfl⟩ | ⟨rfl, rfl⟩ <;> assumption
    have bv : Bd v (2 ^ c) := by rcases huv with ⟨rfl, rfl⟩ | ⟨rfl, rfl⟩ <;> assumption
    refine ⟨⟨h.l2, RL, h.b2, ?_, h.n2, by have := h.n2; omega, .inr ⟨u, v, huv, hu, hvu, T'⟩⟩, sh⟩
    rcases RL with z | z
    · rw [z]; exact Bd.nil _
    · refine (told_small (A := 2 ^ c) (B := 2 ^ c) (low_tr lu) hu bu bv (by have := Nat.two_pow_pos c; omega) hvu T' sh z).mono (pow_bits nu hN hs)
  rcases h.told with ⟨rfl, rfl⟩ | ⟨u, v, huv, hu, hvu, T⟩
  · by_cases hl : r2.length ≤ r1.length
    · refine key r1 r2 (.inl ⟨rfl, rfl⟩) (fun z => ?_) hl (told_first hl)
      rw [z, List.length_nil] at hl
      exact h2 (List.length_eq_zero_iff.mp (by omega))
    · have e : rem r1 r2 = r1 := by
        unfold rem
        rw [prim_own h.l1]
        exact remGo_stop (by omega)
      rw [e]
      exact ⟨⟨h.l2, h.l1, h.b2, h.b1, h.n2, h.n1, .inr ⟨r2, r1, .inr ⟨rfl, rfl⟩, h2, by omega, told_first (by omega)⟩⟩, by omega⟩
  · exact key u v huv hu hvu T
end Pl

set_option autoImplicit false
set_option linter.all false
namespace Pl
theorem ev_set : ∀ (l : P) (i : Nat) (v x : Int), i < l.length → ev (l.set i v) x = ev l x + (v - co l i) * x ^ i
  | [], i, v, x, h => by simp at h
  | a :: l, 0, v, x, _ => by simp [co]; grind
  | a :: l, i + 1, v, x, h => by
    have ih := ev_set l i v x (by simpa using h)
    simp only [List.set_cons_succ, ev_cons, ih]
    have e : co (a :: l) (i + 1) = co l i := by simp [co]
    rw [e, Int.pow_succ]
    grind
theorem ev_take_succ : ∀ (t : P) (m : Nat) (x : Int), ev (t.take (m + 1)) x = ev (t.take m) x + co t m * x ^ m
  | [], m, x => by simp [co]
  | a :: t, 0, x => by simp [co]
  | a :: t, m + 1, x => by
    have ih := ev_take_succ t m x
    have e : co (a :: t) (m + 1) = co t m := by simp [co]
    rw [e, List.take_succ_cons, List.take_succ_cons, ev_cons, ev_cons, ih, Int.pow_succ]
    grind
theorem ev_rep0 : ∀ (n : Nat) (x : Int), ev (List.replicate n 0) x = 0
  | 0, _ => rfl
  | n + 1, x => by rw [List.replicate_succ, ev_cons, ev_rep0 n]; simp
theorem co_rep0 (n k : Nat) : co (List.replicate n 0) k = 0 := by
  simp only [co, List.getD_eq_getElem?_getD, List.getElem?_replicate]
  split <;> rfl
theorem co_set {l : P} {k j : Nat} {v : Int} (h : k < l.length) : co (l.set k v) j = if k = j then v else co l j := by
  simp only [co, List.getD_eq_getElem?_getD, List.getElem?_set]
  split
  · rename_i e; subst e; simp [h]
  · rfl
theorem co_mul_top {d : P} : ∀ {t : P} {k : Nat}, (∀ j, k < j → co d j = 0) → t ≠ [] → co (mul d t) (k + (t.length - 1)) = co d k * lc t
  | [], _, _, h => absurd rfl h
  | [b], k, hd, _ => by
    rw [mul_cons_co]
    have e : ∀ k, co (0 :: mul d []) k = 0 := fun k => by
      have : ∀ x, ev (0 :: mul d []) x = ev [] x := fun x => by simp [ev_mul]
      rw [co_ext this]; simp
    rw [e]
    simp [lc, Int.mul_comm]
  | b :: c :: t, k, hd, _ => by
    have ih := co_mul_top (d := d) (t := c :: t) hd (by simp)
    rw [mul_cons_co, hd _ (by simp)]
    have e : k + ((b :: c :: t).length - 1) = (k + ((c :: t).length - 1)) + 1 := by simp; omega
    have e2 : co (0 :: mul d (c :: t)) (k + ((b :: c :: t).length - 1)) = co (mul d (c :: t)) (k + ((c :: t).length - 1)) := by
      rw [e]; simp only [co, List.getD_cons_succ]
    rw [e2, ih]
    have e3 : lc (b :: c :: t) = lc (c :: t) := by simp [lc]
    rw [e3]; omega
theorem co_zero_from {d t : P} {K : Nat} (tt : Tr t) (nt : t ≠ []) (h : ∀ j, K + (t.length - 1) ≤ j → co (mul d t) j = 0) : ∀ j, K ≤ j → co d j = 0 := by
  have go : ∀ (n m : Nat), d.length ≤ m + n → K ≤ m → ∀ j, m ≤ j → co d j = 0 := by
    intro n
    induction n with
    | zero => intro m hm _ j hj; exact co_ge (by omega)
    | succ n ih =>
      intro m hm hk j hj
      have up := ih (m + 1) (by omega) (by omega)
      by_cases hz : m = j
      · subst hz
        have e := co_mul_top (t := t) (k := m) (fun j hj => up j hj) nt
        rw [h _ (by omega)] at e
        rcases Int.mul_eq_zero.mp e.symm with z | z
        · exact z
        · exact absurd z (lc_ne tt nt)
      · exact up j (by omega)
  intro j hj
  exact go d.length K (by omega) (Nat.le_refl _) j hj
/-- p - q -/
def sub (p q : P) : P := add p (smul (-1) q)
theorem ev_sub (p q : P) (x : Int) : ev (sub p q) x = ev p x - ev q x := by rw [sub, ev_add, ev_smul]; omega
theorem co_sub (p q : P) (k : Nat) : co (sub p q) k = co p k - co q k := by rw [sub, co_add, co_smul]; omega
-- the quotient, where there is one
open Classical in
noncomputable def quo (a t : P) : Option P := if h : ∃ q, Tr q ∧ ∀ x, ev a x = ev q x * ev t x then some h.choose else none
theorem quo_some {a t q : P} (tt : Tr t) (nt : t ≠ []) (tq : Tr q) (h : ∀ x, ev a x = ev q x * ev t x) : quo a t = some q := by
  have hx : ∃ q, Tr q ∧ ∀ x, ev a x = ev q x * ev t x := ⟨q, tq, h⟩
  unfold quo
  rw [dif_pos hx]
  obtain ⟨h1, h2⟩ := hx.choose_spec
  have z := co_zero_from (d := sub hx.choose q) (K := 0) tt nt fun j _ => by
    have : ∀ x, ev (mul (sub hx.choose q) t) x = ev [] x := fun x => by
      rw [ev_mul, ev_sub, Int.sub_mul, ← h2 x, ← h x]; simp
    rw [co_ext this]; simp
  congr 1
  refine ext_all (fun x => ?_) h1 tq
  have := ev_ext_co (p := sub hx.choose q) (q := []) (fun k => by rw [z k (Nat.zero_le _)]; simp) x
  rw [ev_sub] at this
  simp at this
  omega
theorem quo_spec {a t q : P} (h : quo a t = some q) : Tr q ∧ ∀ x, ev a x = ev q x * ev t x := by
  unfold quo at h
  split at h
  · rename_i hx
    cases h
    exact hx.choose_spec
  · cases h
/-- the division under way: i quotient places are told -/
structure DivS (a t : P) (n s i : Nat) (l o : P) : Prop where
  le : i ≤ n
  ll : l.length = a.length
  lo : o.length = n
  eqn : ∀ x, ev a x = ev l x + ev o x * ev t x
  top : ∀ j, n - i + (t.length - 1) ≤ j → co l j = 0
  low : ∀ j, j < n - i → co o j = 0
  bd : Bd l (2 ^ (s + i * (s + 1)))
theorem div_init {a t : P} {n s : Nat} (nt : t ≠ []) (hn : n = a.length + 1 - t.length) (ba : Bd a (2 ^ s)) : DivS a t n s 0 a (List.replicate n 0) := by
  have pt : 0 < t.length := List.length_pos_iff.mpr nt
  exact ⟨Nat.zero_le _, rfl, by simp, fun x => by rw [ev_rep0]; simp, fun j hj => co_ge (by omega), fun j _ => co_rep0 _ _, by simpa using ba⟩
theorem div_lead {a t : P} {n s i : Nat} {l o q : P} (tt : Tr t) (nt : t ≠ []) (h : DivS a t n s i l o) (hi : i < n) (hq : ∀ x, ev a x = ev q x * ev t x) :
    co l (n - 1 - i + (t.length - 1)) = co (sub q o) (n - 1 - i) * lc t := by
  have e : ∀ x, ev (mul (sub q o) t) x = ev l x := fun x => by
    rw [ev_mul, ev_sub, Int.sub_mul, ← hq x, h.eqn x]; omega
  have z := co_zero_from (d := sub q o) (K := n - i) tt nt fun j hj => by rw [co_ext e]; exact h.top j hj
  have := co_mul_top (d := sub q o) (t := t) (k := n - 1 - i) (fun j hj => z j (by omega)) nt
  rw [co_ext e] at this
  exact this
theorem div_none {a t : P} {n s i : Nat} {l o : P} (tt : Tr t) (nt : t ≠ []) (h : DivS a t n s i l o) (hi : i < n) (hd : ¬ lc t ∣ co l (n - 1 - i + (t.length - 1))) : quo a t = none := by
  cases hq : quo a t with
  | none => rfl
  | some q =>
    exfalso
    obtain ⟨_, e⟩ := quo_spec hq
    exact hd ⟨_, by rw [div_lead tt nt h hi e]; exact Int.mul_comm _ _⟩
theorem div_step {a t : P} {n s i : Nat} {l o l' : P} {c : Int} (tt : Tr t) (nt : t ≠ []) (bt : Bd t (2 ^ s)) (h : DivS a t n s i l o) (hi : i < n) (hc : co l (n - 1 - i + (t.length - 1)) = c * lc t)
    (hl : l'.length = l.length) (he : ∀ x, ev l' x = ev l x - c * x ^ (n - 1 - i) * ev t x) : DivS a t n s (i + 1) l' (o.set (n - 1 - i) c) := by
  have e1 : ∀ x, ev l' x = ev (add l (shift (n - 1 - i) (smul (-c) t))) x := fun x => by
    rw [he x, ev_add, ev_shift, ev_smul]; grind
  have hlo : n - 1 - i < o.length := by rw [h.lo]; omega
  refine ⟨hi, by rw [hl, h.ll], by rw [List.length_set, h.lo], fun x => ?_, fun j hj => ?_, fun j hj => ?_, ?_⟩
  · rw [ev_set _ _ _ _ hlo, h.low _ (by omega), he x, h.eqn x]; grind
  · rw [co_ext e1, co_add]
    have ej : j = (n - 1 - i) + (j - (n - 1 - i)) := by omega
    have es : co (shift (n - 1 - i) (smul (-c) t)) j = -c * co t (j - (n - 1 - i)) := by
      conv => lhs; rw [ej]
      rw [co_shift_ge, co_smul]
    rw [es]
    by_cases hz : j = n - 1 - i + (t.length - 1)
    · have : j - (n - 1 - i) = t.length - 1 := by omega
      rw [this, ← lc_co nt, hz, hc]; grind
    · have pt : 0 < t.length := List.length_pos_iff.mpr nt
      rw [h.top j (by omega), co_ge (p := t) (by omega)]; simp
  · rw [co_set hlo, if_neg (by omega)]
    exact h.low j (by omega)
  · have hcb : c.natAbs ≤ 2 ^ (s + i * (s + 1)) := by
      have h1 := h.bd (n - 1 - i + (t.length - 1))
      rw [hc, Int.natAbs_mul] at h1
      have : 1 ≤ (lc t).natAbs := by have := lc_ne tt nt; omega
      exact Nat.le_trans (Nat.le_mul_of_pos_right _ this) h1
    have h2 : Bd (shift (n - 1 - i) (smul (-c) t)) (2 ^ (s + i * (s + 1)) * 2 ^ s) := ((Bd.smul (c := -c) bt).mono (by rw [Int.natAbs_neg]; exact Nat.mul_le_mul_right _ hcb)).shift _
    have h3 : Bd (add l (shift (n - 1 - i) (smul (-c) t))) (2 ^ (s + (i + 1) * (s + 1))) := (h.bd.add h2).mono (by
      have e : s + (i + 1) * (s + 1) = (s + i * (s + 1)) + s + 1 := by rw [Nat.succ_mul]; omega
      rw [e, Nat.pow_succ, Nat.pow_add 2 (s + i * (s + 1)) s]
      have : 1 ≤ 2 ^ s := Nat.two_pow_pos s
      have := Nat.le_mul_of_pos_right (2 ^ (s + i * (s + 1))) this
      omega)
    intro k
    rw [co_ext e1]
    exact h3 k
theorem div_some {a t : P} {n s : Nat} {l o : P} (ta : Tr a) (tt : Tr t) (nt : t ≠ []) (hn : n = a.length + 1 - t.length) (h : DivS a t n s n l o) (hz : ∀ k, co l k = 0) : quo a t = some o := by
  have e0 : ∀ x, ev a x = ev o x * ev t x := fun x => by
    have := ev_ext_co (p := l) (q := []) (fun k => by rw [hz k]; simp) x
    rw [h.eqn x, this]; simp
  refine quo_some tt nt ?_ e0
  by_cases ho : o = []
  · rw [ho]; exact tr_nil
  · have pl : 0 < o.length := List.length_pos_iff.mpr ho
    have ha : a ≠ [] := fun z => by
      have pt : 0 < t.length := List.length_pos_iff.mpr nt
      have := h.lo
      rw [hn, z, List.length_nil] at this
      omega
    apply tr_of_lc
    intro z
    have e1 : ∀ x, ev (mul o t) x = ev a x := fun x => by rw [ev_mul, e0 x]
    have := co_mul_top (d := o) (t := t) (k := o.length - 1) (fun j hj => co_ge (by omega)) nt
    rw [← lc_co ho, z, co_ext e1] at this
    have pt : 0 < t.length := List.length_pos_iff.mpr nt
    have ei : o.length - 1 + (t.length - 1) = a.length - 1 := by have := h.lo; omega
    rw [ei, ← lc_co ha] at this
    exact lc_ne ta ha (by rw [this]; simp)
theorem div_fail {a t : P} {n s : Nat} {l o : P} (tt : Tr t) (nt : t ≠ []) (h : DivS a t n s n l o) {k : Nat} (hk : co l k ≠ 0) : quo a t = none := by
  cases hq : quo a t with
  | none => rfl
  | some q =>
    exfalso
    obtain ⟨_, hq⟩ := quo_spec hq
    have e : ∀ x, ev (mul (sub q o) t) x = ev l x := fun x => by
      rw [ev_mul, ev_sub, Int.sub_mul, ← hq x, h.eqn x]; omega
    have z := co_zero_from (d := sub q o) (K := 0) tt nt fun j hj => by rw [co_ext e]; exact h.top j (by omega)
    have e2 : ∀ x, ev (sub q o) x = ev [] x := ev_ext_co fun k => by rw [z k (Nat.zero_le _)]; simp
    apply hk
    rw [← co_ext e]
    have : ∀ x, ev (mul (sub q o) t) x = ev [] x := fun x => by rw [ev_mul, e2 x]; simp
    rw [co_ext this]; simp
end Pl

set_option autoImplicit false
set_option linter.all false
namespace Pl
def rawStep (l t : P) : P := trim (add (smul (lc t) l) (shift (l.length - t.length) (smul (-(lc l)) t)))
/-- r is p but for a number -/
def Rl (r p : P) : Prop := Tr r ∧ ∃ c, c ≠ 0 ∧ ∀ x, ev r x = c * ev p x
theorem Rl.eq {r p : P} (tp : Tr p) (h : Rl r p) : ∃ c, c ≠ 0 ∧ r = smul c p := by
  obtain ⟨tr, c, hc, e⟩ := h
  exact ⟨c, hc, ext_all (fun x => by rw [ev_smul, e x]) tr (tr_smul hc tp)⟩
theorem Rl.len {r p : P} (tp : Tr p) (h : Rl r p) : r.length = p.length := by
  obtain ⟨c, _, rfl⟩ := h.eq tp
  exact smul_length c p
theorem Rl.step {r p t : P} (tp : Tr p) (h : Rl r p) (hp : p ≠ []) (ht : t ≠ []) (hle : t.length ≤ p.length) : Rl (rawStep r t) (remStep p t) := by
  obtain ⟨c, hc, rfl⟩ := h.eq tp
  obtain ⟨_, _, _, e, he, s⟩ := remStep_spec hp ht hle
  refine ⟨tr_trim _, c * e, Int.mul_ne_zero hc he, fun x => ?_⟩
  unfold rawStep
  have := s x
  rw [ev_trim, ev_add, ev_smul, ev_shift, ev_smul, ev_smul, lc_smul, smul_length]
  grind
theorem Rl.prim {r p : P} (h : Rl r p) (hp : p = [] ∨ Low p) : Pl.prim r = p := by
  obtain ⟨tr, c, hc, e⟩ := h
  rcases hp with rfl | hp
  · have : r = [] := ext_all (fun x => by rw [e x]; simp) tr tr_nil
    rw [this, prim_nil]
  · have hr : r ≠ [] := by
      rintro rfl
      have : p = [] := ext_all (fun x => by
        have := e x
        rw [ev_nil] at this
        rcases Int.mul_eq_zero.mp this.symm with z | z
        · exact absurd z hc
        · rw [z]; rfl) hp.tr tr_nil
      exact hp.ne this
    obtain ⟨c', hc', _, e2, lo⟩ := prim_spec tr hr
    exact lo.eq hp hc' hc fun x => by rw [← e x, ← ev_smul, e2]
theorem Rl.refl {p : P} (tp : Tr p) : Rl p p := ⟨tp, 1, by omega, fun x => by omega⟩
theorem Bd.rawStep {l t : P} {e s : Nat} (hl : Bd l (2 ^ e)) (ht : Bd t (2 ^ s)) : Bd (Pl.rawStep l t) (2 ^ (e + s + 1)) := by
  unfold Pl.rawStep
  apply Bd.trim
  have h1 : Bd (Pl.smul (Pl.lc t) l) (2 ^ (e + s)) := (Bd.smul (c := Pl.lc t) hl).mono (by
    rw [Nat.pow_add, Nat.mul_comm]; exact Nat.mul_le_mul_left _ ht.lc)
  have h2 : Bd (Pl.smul (-(Pl.lc l)) t) (2 ^ (e + s)) := (Bd.smul (c := -(Pl.lc l)) ht).mono (by
    rw [Nat.pow_add, Int.natAbs_neg]; exact Nat.mul_le_mul_right _ hl.lc)
  exact (h1.add (h2.shift _)).mono (by rw [Nat.pow_succ]; omega)
end Pl

set_option autoImplicit false
set_option linter.all false
namespace Pl
/-- nothing in common -/
def Cop (p q : P) : Prop := ∃ (u v : P) (c : Int), c ≠ 0 ∧ ∀ x, ev u x * ev p x + ev v x * ev q x = c
theorem Cop.symm {p q : P} (h : Cop p q) : Cop q p := by
  obtain ⟨u, v, c, hc, e⟩ := h
  exact ⟨v, u, c, hc, fun x => by have := e x; omega⟩
theorem Cop.congr {p q r : P} (h : Cop p q) (e : ∀ x, ev q x = ev r x) : Cop p r := by
  obtain ⟨u, v, c, hc, h⟩ := h
  exact ⟨u, v, c, hc, fun x => by rw [← e x]; exact h x⟩
theorem Cop.mul_right {p q r : P} (h1 : Cop p q) (h2 : Cop p r) : Cop p (Pl.mul q r) := by
  obtain ⟨u1, v1, c1, hc1, e1⟩ := h1
  obtain ⟨u2, v2, c2, hc2, e2⟩ := h2
  refine ⟨add (add (Pl.mul (Pl.mul u1 u2) p) (Pl.mul u1 (Pl.mul v2 r))) (Pl.mul (Pl.mul v1 q) u2), Pl.mul v1 v2, c1 * c2, Int.mul_ne_zero hc1 hc2, fun x => ?_⟩
  have h1 := e1 x
  have h2 := e2 x
  simp only [ev_add, ev_mul]
  rw [← h1, ← h2]
  grind
theorem Cop.one (p : P) : Cop p [1] := ⟨[], [1], 1, by omega, fun x => by simp⟩
theorem Cop.const (p : P) {c : Int} (hc : c ≠ 0) : Cop p [c] := ⟨[], [1], c, hc, fun x => by simp⟩
/-- more of p does no harm -/
theorem Cop.more {p q r w : P} (h : Cop p q) (e : ∀ x, ev r x = ev q x + ev p x * ev w x) : Cop p r := by
  obtain ⟨u, v, c, hc, h⟩ := h
  refine ⟨add u (smul (-1) (Pl.mul v w)), v, c, hc, fun x => ?_⟩
  have := h x
  rw [e x, ev_add, ev_smul, ev_mul, ← this]
  grind
theorem ev_cancel {r s t : P} (tr : Tr r) (nr : r ≠ []) (h : ∀ x, ev s x * ev r x = ev t x * ev r x) (x : Int) : ev s x = ev t x := by
  have z := co_zero_from (d := sub s t) (t := r) (K := 0) tr nr fun j _ => by
    have : ∀ x, ev (mul (sub s t) r) x = ev [] x := fun x => by
      rw [ev_mul, ev_sub, Int.sub_mul, h x]; simp
    rw [co_ext this]; simp
  have := ev_ext_co (p := sub s t) (q := []) (fun k => by rw [z k (Nat.zero_le _)]; simp) x
  rw [ev_sub] at this
  simp at this
  omega
def powM (m : P) : Nat → P
  | 0 => [1]
  | n + 1 => mul (powM m n) m
theorem ev_powM (m : P) (x : Int) : ∀ n, ev (powM m n) x = ev m x ^ n
  | 0 => by simp [powM]
  | n + 1 => by rw [powM, ev_mul, ev_powM m x n, Int.pow_succ]
def prodF : List P → (Nat → Nat) → P
  | [], _ => [1]
  | m :: ms, e => mul (powM m (e 0)) (prodF ms fun i => e (i + 1))
theorem Cop.pow_right {p m : P} (h : Cop p m) : ∀ n, Cop p (powM m n)
  | 0 => Cop.one p
  | n + 1 => (Cop.pow_right h n).mul_right h
theorem Cop.prod_right {p : P} : ∀ {ms : List P} (e : Nat → Nat), (∀ m ∈ ms, Cop p m) → Cop p (prodF ms e)
  | [], _, _ => Cop.one p
  | m :: ms, e, h => ((h m List.mem_cons_self).pow_right _).mul_right (Cop.prod_right _ fun m hm => h m (List.mem_cons_of_mem _ hm))
theorem Cop.pow_left {p m : P} (h : Cop m p) (n : Nat) : Cop (powM m n) p := (h.symm.pow_right n).symm
theorem cop_prod : ∀ {ms : List P} {a b : Nat → Nat}, ms.Pairwise Cop → (∀ t, t < ms.length → a t = 0 ∨ b t = 0) → Cop (prodF ms a) (prodF ms b)
  | [], _, _, _, _ => Cop.one _
  | m :: ms, a, b, hp, h => by
    obtain ⟨h1, h2⟩ := List.pairwise_cons.mp hp
    have ih := cop_prod (a := fun i => a (i + 1)) (b := fun i => b (i + 1)) h2 fun t ht => h (t + 1) (by simp; omega)
    have k1 : Cop m (prodF ms fun i => a (i + 1)) := Cop.prod_right _ h1
    have k2 : Cop m (prodF ms fun i => b (i + 1)) := Cop.prod_right _ h1
    have pa : Cop (powM m (a 0)) (powM m (b 0)) := by
      rcases h 0 (by simp) with z | z
      · rw [z]; exact (Cop.one _).symm
      · rw [z]; exact Cop.one _
    show Cop (mul (powM m (a 0)) (prodF ms fun i => a (i + 1))) (mul (powM m (b 0)) (prodF ms fun i => b (i + 1)))
    refine Cop.mul_right (Cop.symm ?_) (Cop.symm ?_)
    · exact pa.symm.mul_right (k1.pow_left _)
    · exact (k2.pow_left _).symm.mul_right ih.symm
theorem Dv.cop {d a b : P} (h : Dv d (mul a b)) (hc : Cop d a) : Dv d b := by
  obtain ⟨c, q, hc0, e⟩ := h
  obtain ⟨u, v, k, hk, e2⟩ := hc
  refine ⟨c * k, add (smul c (mul u b)) (mul v q), Int.mul_ne_zero hc0 hk, fun x => ?_⟩
  have h1 := e x
  have h2 := e2 x
  rw [ev_mul] at h1
  simp only [ev_add, ev_smul, ev_mul]
  rw [← h2]
  grind
theorem Dv.trans {a b c : P} (h1 : Dv a b) (h2 : Dv b c) : Dv a c := by
  obtain ⟨k1, q1, hk1, e1⟩ := h1
  obtain ⟨k2, q2, hk2, e2⟩ := h2
  refine ⟨k1 * k2, mul q1 q2, Int.mul_ne_zero hk1 hk2, fun x => ?_⟩
  have h1 := e1 x
  have h2 := e2 x
  rw [ev_mul]
  grind
theorem Dv.of_ev {d a q : P} (h : ∀ x, ev a x = ev q x * ev d x) : Dv d a := ⟨1, q, by omega, fun x => by rw [h x]; omega⟩
/-- what has a degree divides no number -/
theorem Dv.not_one {d : P} (td : Tr d) (hl : 2 ≤ d.length) : ¬ Dv d [1] := by
  rintro ⟨c, q, hc, e⟩
  have nd : d ≠ [] := fun z => by rw [z] at hl; simp at hl
  have z := co_zero_from (d := q) (t := d) (K := 0) td nd fun j hj => by
    have : ∀ x, ev (mul q d) x = ev [c] x := fun x => by rw [ev_mul, ← e x]; simp
    rw [co_ext this]
    exact co_ge (by simp; omega)
  have e2 : ∀ x, ev q x = 0 := fun x => by
    have := ev_ext_co (p := q) (q := []) (fun k => by rw [z k (Nat.zero_le _)]; simp) x
    simpa using this
  have := e 0
  rw [e2 0] at this
  simp at this
  exact hc this
theorem low_powM {m : P} (h : Low m) : ∀ n, Low (powM m n)
  | 0 => low_one
  | n + 1 => (low_powM h n).mul h
theorem low_prodF : ∀ {ms : List P} (e : Nat → Nat), (∀ m ∈ ms, Low m) → Low (prodF ms e)
  | [], _, _ => low_one
  | m :: ms, e, h => (low_powM (h m List.mem_cons_self) _).mul (low_prodF _ fun m hm => h m (List.mem_cons_of_mem _ hm))
theorem ev_prodF_add : ∀ {ms : List P} {a b c : Nat → Nat} (x : Int), (∀ t, t < ms.length → c t = a t + b t) → ev (prodF ms c) x = ev (prodF ms a) x * ev (prodF ms b) x
  | [], _, _, _, x, _ => by simp [prodF]
  | m :: ms, a, b, c, x, h => by
    have ih := ev_prodF_add (a := fun i => a (i + 1)) (b := fun i => b (i + 1)) (c := fun i => c (i + 1)) (ms := ms) x fun t ht => h (t + 1) (by simp; omega)
    simp only [prodF, ev_mul, ev_powM, ih, h 0 (by simp), Int.pow_add]
    grind
/-- powers of one in powers of another -/
theorem le_of_dv : ∀ {ms : List P} {f e : Nat → Nat}, ms.Pairwise Cop → (∀ m ∈ ms, Low m ∧ 2 ≤ m.length) → Dv (prodF ms f) (prodF ms e) → ∀ t, t < ms.length → f t ≤ e t
  | [], _, _, _, _, _, t, ht => by simp at ht
  | m :: ms, f, e, hp, hm, hd, t, ht => by
    obtain ⟨h1, h2⟩ := List.pairwise_cons.mp hp
    have hm' : ∀ m ∈ ms, Low m ∧ 2 ≤ m.length := fun m h => hm m (List.mem_cons_of_mem _ h)
    obtain ⟨lm, l2⟩ := hm m List.mem_cons_self
    have ce : Cop m (prodF ms fun i => e (i + 1)) := Cop.prod_right _ h1
    have cf : Cop m (prodF ms fun i => f (i + 1)) := Cop.prod_right _ h1
    cases t with
    | zero =>
      apply Classical.byContradiction
      intro hn
      -- m divides what is coprime to it
      have d1 : Dv (powM m (e 0 + 1)) (prodF (m :: ms) e) := Dv.trans (Dv.of_ev (q := mul (powM m (f 0 - (e 0 + 1))) (prodF ms fun i => f (i + 1))) fun x => by
        have hf : f 0 = (f 0 - (e 0 + 1)) + (e 0 + 1) := by omega
        show ev (mul (powM m (f 0)) (prodF ms fun i => f (i + 1))) x = _
        rw [ev_mul, ev_mul, ev_powM, ev_powM, ev_powM]
        conv => lhs; rw [hf, Int.pow_add]
        grind) hd
      obtain ⟨c, q, hc, eq⟩ := d1
      have d2 : Dv m (prodF ms fun i => e (i + 1)) := by
        have lp := low_powM lm (e 0)
        refine ⟨c, q, hc, fun x => ?_⟩
        have := ev_cancel (s := smul c (prodF ms fun i => e (i + 1))) (t := mul q m) lp.tr lp.ne (fun x => by
          have h1 := eq x
          have h2 : ev (prodF (m :: ms) e) x = ev m x ^ (e 0) * ev (prodF ms fun i => e (i + 1)) x := by
            show ev (mul (powM m (e 0)) (prodF ms fun i => e (i + 1))) x = _
            rw [ev_mul, ev_powM]
          rw [h2, ev_powM, Int.pow_succ] at h1
          rw [ev_smul, ev_mul, ev_powM]
          grind) x
        rw [ev_smul, ev_mul] at this
        exact this
      have d3 : Dv m [1] := by
        have : Dv m (mul (prodF ms fun i => e (i + 1)) [1]) := by
          obtain ⟨c, q, hc, eq⟩ := d2
          exact ⟨c, q, hc, fun x => by rw [ev_mul]; simp; exact eq x⟩
        exact this.cop ce
      exact d3.not_one lm.tr l2
    | succ t =>
      have d1 : Dv (prodF ms fun i => f (i + 1)) (mul (powM m (e 0)) (prodF ms fun i => e (i + 1))) := Dv.trans (Dv.of_ev (q := powM m (f 0)) fun x => by
        show ev (mul (powM m (f 0)) (prodF ms fun i => f (i + 1))) x = _
        rw [ev_mul]) hd
      exact le_of_dv h2 hm' (d1.cop (cf.symm.pow_right _)) t (by simp at ht; omega)
/-! ### derivatives -/
def derF (k : Int) : P → P
  | [] => []
  | a :: p => (k * a) :: derF (k + 1) p
def der (p : P) : P := derF 1 p.tail
theorem derF_length (p : P) : ∀ k, (derF k p).length = p.length := by
  induction p with
  | nil => intro _; rfl
  | cons a p ih => intro k; simp [derF, ih]
theorem co_derF (p : P) : ∀ (k : Int) (i : Nat), co (derF k p) i = (k + i) * co p i := by
  induction p with
  | nil => intro k i; simp [derF]
  | cons a p ih =>
    intro k i
    cases i with
    | zero => simp [derF, co]
    | succ i =>
      have := ih (k + 1) i
      simp only [co, derF, List.getD_cons_succ] at this ⊢
      rw [this]
      congr 1
      omega
theorem co_der (p : P) (i : Nat) : co (der p) i = ((i : Int) + 1) * co p (i + 1) := by
  unfold der
  rw [co_derF]
  cases p with
  | nil => simp
  | cons a p => simp only [List.tail_cons, co, List.getD_cons_succ]; congr 1; omega
def evd : P → Int → Int
  | [], _ => 0
  | _ :: p, x => ev p x + x * evd p x
theorem ev_derF (p : P) (x : Int) : ∀ k, ev (derF k p) x = k * ev p x + x * evd p x := by
  induction p with
  | nil => intro k; simp [derF, evd]
  | cons a p ih =>
    intro k
    simp only [derF, ev_cons, evd, ih]
    grind
theorem ev_der (p : P) (x : Int) : ev (der p) x = evd p x := by
  cases p with
  | nil => rfl
  | cons a p => simp only [der, List.tail_cons, ev_derF, evd]; omega
theorem evd_congr {p q : P} (h : ∀ x, ev p x = ev q x) (x : Int) : evd p x = evd q x := by
  rw [← ev_der, ← ev_der]
  exact ev_ext_co (fun k => by rw [co_der, co_der, co_ext h]) x
theorem evd_add : ∀ (p q : P) (x : Int), evd (add p q) x = evd p x + evd q x
  | [], q, x => by simp [add, evd]
  | a :: p, [], x => by simp [add, evd]
  | a :: p, b :: q, x => by
    simp only [add, evd, ev_add, evd_add p q x]
    grind
theorem evd_smul (c : Int) : ∀ (p : P) (x : Int), evd (smul c p) x = c * evd p x
  | [], x => by simp [smul, evd]
  | a :: p, x => by
    have e : smul c (a :: p) = (c * a) :: smul c p := rfl
    rw [e, evd, evd, ev_smul, evd_smul c p x]
    grind
theorem evd_mul : ∀ (p q : P) (x : Int), evd (mul p q) x = evd p x * ev q x + ev p x * evd q x
  | [], q, x => by simp [mul, evd]
  | a :: p, q, x => by
    have e : mul (a :: p) q = add (smul a q) (0 :: mul p q) := rfl
    rw [e, evd_add, evd_smul, evd, evd, ev_mul, evd_mul p q x, ev_cons]
    grind
theorem evd_powM (m : P) (x : Int) : ∀ n, evd (powM m (n + 1)) x = (n + 1 : Nat) * ev m x ^ n * evd m x
  | 0 => by
    have e : powM m (0 + 1) = mul [1] m := rfl
    rw [e, evd_mul]
    simp [evd]
  | n + 1 => by
    have ih := evd_powM m x n
    have e : powM m (n + 1 + 1) = mul (powM m (n + 1)) m := rfl
    rw [e, evd_mul, ih, ev_powM, Int.pow_succ]
    have e2 : ((n + 1 + 1 : Nat) : Int) = ((n + 1 : Nat) : Int) + 1 := by omega
    rw [e2]
    grind
theorem der_length (p : P) : (der p).length = p.length - 1 := by
  unfold der
  rw [derF_length, List.length_tail]
theorem der_tr {p : P} (tp : Tr p) : Tr (der p) := by
  by_cases hd : der p = []
  · rw [hd]; exact tr_nil
  · have pl : 0 < (der p).length := List.length_pos_iff.mpr hd
    rw [der_length] at pl
    have hp : p ≠ [] := fun z => by rw [z] at pl; simp at pl
    apply tr_of_lc
    rw [lc_co hd, der_length, co_der]
    have e : p.length - 1 - 1 + 1 = p.length - 1 := by omega
    rw [e, ← lc_co hp]
    exact Int.mul_ne_zero (by omega) (lc_ne tp hp)
/-- the factors once, what is left of them, and the derivative -/
theorem sq_prod : ∀ {ms : List P} (a : Nat → Nat), ms.Pairwise Cop → (∀ m ∈ ms, Cop m (der m)) →
    ∃ T : P, Cop (prodF ms fun t => min 1 (a t)) T ∧ ∀ x, evd (prodF ms a) x = ev T x * ev (prodF ms fun t => a t - 1) x
  | [], a, _, _ => ⟨[], (Cop.one _).symm, fun x => by simp [prodF, evd]⟩
  | m :: ms, a, hp, hs => by
    obtain ⟨h1, h2⟩ := List.pairwise_cons.mp hp
    have hs' : ∀ m ∈ ms, Cop m (der m) := fun m h => hs m (List.mem_cons_of_mem _ h)
    obtain ⟨T, hT, eT⟩ := sq_prod (fun i => a (i + 1)) h2 hs'
    have hsum : ∀ x, ev (prodF ms fun i => a (i + 1)) x = ev (prodF ms fun i => min 1 (a (i + 1))) x * ev (prodF ms fun i => a (i + 1) - 1) x := fun x => ev_prodF_add x fun t _ => by omega
    have eP : ∀ x, evd (prodF (m :: ms) a) x = evd (powM m (a 0)) x * ev (prodF ms fun i => a (i + 1)) x + ev (powM m (a 0)) x * evd (prodF ms fun i => a (i + 1)) x := fun x => evd_mul _ _ x
    have eR : ∀ x, ev (prodF (m :: ms) fun t => a t - 1) x = ev m x ^ (a 0 - 1) * ev (prodF ms fun i => a (i + 1) - 1) x := fun x => by
      show ev (mul (powM m (a 0 - 1)) (prodF ms fun i => a (i + 1) - 1)) x = _
      rw [ev_mul, ev_powM]
    cases ha : a 0 with
    | zero =>
      refine ⟨T, ?_, fun x => ?_⟩
      · show Cop (mul (powM m (min 1 (a 0))) (prodF ms fun i => min 1 (a (i + 1)))) T
        rw [ha]
        exact (Cop.congr hT.symm fun x => by rw [ev_mul]; simp [powM]).symm
      · rw [eP, eR, eT, ha]
        simp [powM, evd]
    | succ b =>
      have cm : Cop m (prodF ms fun i => min 1 (a (i + 1))) := Cop.prod_right _ h1
      refine ⟨add (smul ((b + 1 : Nat) : Int) (mul (der m) (prodF ms fun i => min 1 (a (i + 1))))) (mul m T), ?_, fun x => ?_⟩
      · show Cop (mul (powM m (min 1 (a 0))) (prodF ms fun i => min 1 (a (i + 1)))) _
        rw [ha]
        have e1 : powM m (min 1 (b + 1)) = mul [1] m := by
          have : min 1 (b + 1) = 0 + 1 := by omega
          rw [this]; rfl
        rw [e1]
        refine Cop.symm (Cop.mul_right (Cop.congr (q := m) (Cop.symm ?_) fun x => by rw [ev_mul]; simp) (Cop.symm ?_))
        · have k : Cop m (mul [((b + 1 : Nat) : Int)] (mul (der m) (prodF ms fun i => min 1 (a (i + 1))))) := Cop.mul_right (Cop.const m (by omega)) (Cop.mul_right (hs m List.mem_cons_self) cm)
          exact k.more (w := T) fun x => by simp only [ev_add, ev_smul, ev_mul, ev_cons, ev_nil]; grind
        · have k : Cop (prodF ms fun i => min 1 (a (i + 1))) (mul m T) := Cop.mul_right cm.symm hT
          exact k.more (w := smul ((b + 1 : Nat) : Int) (der m)) fun x => by simp only [ev_add, ev_smul, ev_mul]; grind
      · rw [eP, eR, eT, ha, hsum, evd_powM, ev_powM, ev_add, ev_smul, ev_mul, ev_mul, ev_der, Int.pow_succ]
        have e3 : b + 1 - 1 = b := by omega
        rw [e3]
        grind
end Pl

set_option autoImplicit false
set_option linter.all false
namespace Pl
theorem ev_zeros (c : Int) (n : Nat) (x : Int) : ev (c :: List.replicate n 0) x = c := by
  have h : ∀ n, ev (List.replicate n 0) x = 0 := fun n => ev_rep0 n x
  rw [ev_cons, h]; simp
theorem cop_of {p q u v : P} {c : Int} {n : Nat} (hc : c ≠ 0) (h : add (mul u p) (mul v q) = c :: List.replicate n 0) : Cop p q :=
  ⟨u, v, c, hc, fun x => by rw [← ev_mul, ← ev_mul, ← ev_add, h, ev_zeros]⟩
def menuL : List P := [[0, 1], [1, 1], [-2, 1], [3, 2], [1, 0, 1], [1, 1, 1], [2, 0, 1], [-2, 0, 0, 1]]
theorem menu_cop : menuL.Pairwise Cop := by
  unfold menuL
  exact List.Pairwise.cons (List.forall_mem_cons.mpr ⟨cop_of (u := [1]) (v := [-1]) (c := -1) (n := 1) (by decide) (by decide),
    (List.forall_mem_cons.mpr ⟨cop_of (u := [1]) (v := [-1]) (c := 2) (n := 1) (by decide) (by decide),
    (List.forall_mem_cons.mpr ⟨cop_of (u := [2]) (v := [-1]) (c := -3) (n := 1) (by decide) (by decide),
    (List.forall_mem_cons.mpr ⟨cop_of (u := [0, -1]) (v := [1]) (c := 1) (n := 2) (by decide) (by decide),
    (List.forall_mem_cons.mpr ⟨cop_of (u := [-1, -1]) (v := [1]) (c := 1) (n := 2) (by decide) (by decide),
    (List.forall_mem_cons.mpr ⟨cop_of (u := [0, -1]) (v := [1]) (c := 2) (n := 2) (by decide) (by decide),
    (List.forall_mem_cons.mpr ⟨cop_of (u := [0, 0, -1]) (v := [1]) (c := -2) (n := 3) (by decide) (by decide),
    (fun _ h => nomatch h)⟩)⟩)⟩)⟩)⟩)⟩)⟩)
      (List.Pairwise.cons (List.forall_mem_cons.mpr ⟨cop_of (u := [1]) (v := [-1]) (c := 3) (n := 1) (by decide) (by decide),
    (List.forall_mem_cons.mpr ⟨cop_of (u := [2]) (v := [-1]) (c := -1) (n := 1) (by decide) (by decide),
    (List.forall_mem_cons.mpr ⟨cop_of (u := [1, -1]) (v := [1]) (c := 2) (n := 2) (by decide) (by decide),
    (List.forall_mem_cons.mpr ⟨cop_of (u := [0, -1]) (v := [1]) (c := 1) (n := 2) (by decide) (by decide),
    (List.forall_mem_cons.mpr ⟨cop_of (u := [1, -1]) (v := [1]) (c := 3) (n := 2) (by decide) (by decide),
    (List.forall_mem_cons.mpr ⟨cop_of (u := [-1, 1, -1]) (v := [1]) (c := -3) (n := 3) (by decide) (by decide),
    (fun _ h => nomatch h)⟩)⟩)⟩)⟩)⟩)⟩)
      (List.Pairwise.cons (List.forall_mem_cons.mpr ⟨cop_of (u := [2]) (v := [-1]) (c := -7) (n := 1) (by decide) (by decide),
    (List.forall_mem_cons.mpr ⟨cop_of (u := [-2, -1]) (v := [1]) (c := 5) (n := 2) (by decide) (by decide),
    (List.forall_mem_cons.mpr ⟨cop_of (u := [-3, -1]) (v := [1]) (c := 7) (n := 2) (by decide) (by decide),
    (List.forall_mem_cons.mpr ⟨cop_of (u := [-2, -1]) (v := [1]) (c := 6) (n := 2) (by decide) (by decide),
    (List.forall_mem_cons.mpr ⟨cop_of (u := [-4, -2, -1]) (v := [1]) (c := 6) (n := 3) (by decide) (by decide),
    (fun _ h => nomatch h)⟩)⟩)⟩)⟩)⟩)
      (List.Pairwise.cons (List.forall_mem_cons.mpr ⟨cop_of (u := [3, -2]) (v := [4]) (c := 13) (n := 2) (by decide) (by decide),
    (List.forall_mem_cons.mpr ⟨cop_of (u := [1, -2]) (v := [4]) (c := 7) (n := 2) (by decide) (by decide),
    (List.forall_mem_cons.mpr ⟨cop_of (u := [3, -2]) (v := [4]) (c := 17) (n := 2) (by decide) (by decide),
    (List.forall_mem_cons.mpr ⟨cop_of (u := [-9, 6, -4]) (v := [8]) (c := -43) (n := 3) (by decide) (by decide),
    (fun _ h => nomatch h)⟩)⟩)⟩)⟩)
      (List.Pairwise.cons (List.forall_mem_cons.mpr ⟨cop_of (u := [1, 1]) (v := [0, -1]) (c := 1) (n := 3) (by decide) (by decide),
    (List.forall_mem_cons.mpr ⟨cop_of (u := [1]) (v := [-1]) (c := -1) (n := 2) (by decide) (by decide),
    (List.forall_mem_cons.mpr ⟨cop_of (u := [1, 2, -1]) (v := [-2, 1]) (c := 5) (n := 4) (by decide) (by decide),
    (fun _ h => nomatch h)⟩)⟩)⟩)
      (List.Pairwise.cons (List.forall_mem_cons.mpr ⟨cop_of (u := [-1, -1]) (v := [2, 1]) (c := 3) (n := 3) (by decide) (by decide),
    (List.forall_mem_cons.mpr ⟨cop_of (u := [1, -1]) (v := [1]) (c := -1) (n := 3) (by decide) (by decide),
    (fun _ h => nomatch h)⟩)⟩)
      (List.Pairwise.cons (List.forall_mem_cons.mpr ⟨cop_of (u := [2, 1, -1]) (v := [-1, 1]) (c := 6) (n := 4) (by decide) (by decide),
    (fun _ h => nomatch h)⟩)
      (List.Pairwise.cons (fun _ h => nomatch h)
      (List.Pairwise.nil))))))))
theorem menu_sq : ∀ m ∈ menuL, Cop m (der m) := by
  unfold menuL
  exact (List.forall_mem_cons.mpr ⟨cop_of (u := []) (v := [1]) (c := 1) (n := 0) (by decide) (by decide),
    (List.forall_mem_cons.mpr ⟨cop_of (u := []) (v := [1]) (c := 1) (n := 0) (by decide) (by decide),
    (List.forall_mem_cons.mpr ⟨cop_of (u := []) (v := [1]) (c := 1) (n := 0) (by decide) (by decide),
    (List.forall_mem_cons.mpr ⟨cop_of (u := []) (v := [1]) (c := 2) (n := 0) (by decide) (by decide),
    (List.forall_mem_cons.mpr ⟨cop_of (u := [2]) (v := [0, -1]) (c := 2) (n := 2) (by decide) (by decide),
    (List.forall_mem_cons.mpr ⟨cop_of (u := [4]) (v := [-1, -2]) (c := 3) (n := 2) (by decide) (by decide),
    (List.forall_mem_cons.mpr ⟨cop_of (u := [2]) (v := [0, -1]) (c := 4) (n := 2) (by decide) (by decide),
    (List.forall_mem_cons.mpr ⟨cop_of (u := [3]) (v := [0, -1]) (c := -6) (n := 3) (by decide) (by decide),
    (fun _ h => nomatch h)⟩)⟩)⟩)⟩)⟩)⟩)⟩)⟩)
theorem menu_low : ∀ m ∈ menuL, Low m ∧ 2 ≤ m.length := by
  unfold menuL
  exact (List.forall_mem_cons.mpr ⟨⟨⟨by simp [Tr], by simp, by decide, by decide⟩, by decide⟩,
    (List.forall_mem_cons.mpr ⟨⟨⟨by simp [Tr], by simp, by decide, by decide⟩, by decide⟩,
    (List.forall_mem_cons.mpr ⟨⟨⟨by simp [Tr], by simp, by decide, by decide⟩, by decide⟩,
    (List.forall_mem_cons.mpr ⟨⟨⟨by simp [Tr], by simp, by decide, by decide⟩, by decide⟩,
    (List.forall_mem_cons.mpr ⟨⟨⟨by simp [Tr], by simp, by decide, by decide⟩, by decide⟩,
    (List.forall_mem_cons.mpr ⟨⟨⟨by simp [Tr], by simp, by decide, by decide⟩, by decide⟩,
    (List.forall_mem_cons.mpr ⟨⟨⟨by simp [Tr], by simp, by decide, by decide⟩, by decide⟩,
    (List.forall_mem_cons.mpr ⟨⟨⟨by simp [Tr], by simp, by decide, by decide⟩, by decide⟩,
    (fun _ h => nomatch h)⟩)⟩)⟩)⟩)⟩)⟩)⟩)⟩)
/-! ### what the law's polynomials have in common -/
theorem prim_smul {n : Int} {p : P} (hn : n ≠ 0) (h : Low p) : prim (smul n p) = p := Rl.prim ⟨tr_smul hn h.tr, n, hn, fun x => ev_smul n p x⟩ (.inr h)
theorem smul_ne {n : Int} {p : P} (h : p ≠ []) : smul n p ≠ [] := fun z => h (by
  have := congrArg List.length z
  rw [smul_length] at this
  exact List.length_eq_zero_iff.mp this)
theorem gcd_nil_r {n : Int} {p : P} (hn : n ≠ 0) (h : Low p) : gcdP (smul n p) [] = p :=
  gcd_unique (tr_smul hn h.tr) tr_nil (.inl (smul_ne h.ne)) h (Dv.of_ev (q := [n]) fun x => by rw [ev_smul]; simp) (Dv.of_ev (q := []) fun x => by simp) ⟨[1], [], n, hn, fun x => by rw [ev_smul]; simp⟩
theorem gcd_nil_l {n : Int} {p : P} (hn : n ≠ 0) (h : Low p) : gcdP [] (smul n p) = p :=
  gcd_unique tr_nil (tr_smul hn h.tr) (.inr (smul_ne h.ne)) h (Dv.of_ev (q := []) fun x => by simp) (Dv.of_ev (q := [n]) fun x => by rw [ev_smul]; simp) ⟨[], [1], n, hn, fun x => by rw [ev_smul]; simp⟩
theorem low_menu (e : Nat → Nat) : Low (prodF menuL e) := low_prodF e fun m hm => (menu_low m hm).1
theorem gcd_exp {n1 n2 : Int} (h1 : n1 ≠ 0) (h2 : n2 ≠ 0) (e f : Nat → Nat) : gcdP (smul n1 (prodF menuL e)) (smul n2 (prodF menuL f)) = prodF menuL fun t => min (e t) (f t) := by
  have e1 : ∀ x, ev (prodF menuL e) x = ev (prodF menuL fun t => e t - f t) x * ev (prodF menuL fun t => min (e t) (f t)) x := fun x => ev_prodF_add x fun t _ => by omega
  have e2 : ∀ x, ev (prodF menuL f) x = ev (prodF menuL fun t => f t - e t) x * ev (prodF menuL fun t => min (e t) (f t)) x := fun x => ev_prodF_add x fun t _ => by omega
  obtain ⟨u, v, c, hc, k⟩ : Cop (prodF menuL fun t => e t - f t) (prodF menuL fun t => f t - e t) := cop_prod menu_cop fun t _ => by omega
  refine gcd_unique (tr_smul h1 (low_menu e).tr) (tr_smul h2 (low_menu f).tr) (.inl (smul_ne (low_menu e).ne)) (low_menu _) (Dv.of_ev (q := smul n1 (prodF menuL fun t => e t - f t)) fun x => ?_) (Dv.of_ev (q := smul n2 (prodF menuL fun t => f t - e t)) fun x => ?_)
    ⟨smul n2 u, smul n1 v, n1 * n2 * c, Int.mul_ne_zero (Int.mul_ne_zero h1 h2) hc, fun x => ?_⟩
  · rw [ev_smul, ev_smul, e1 x]; grind
  · rw [ev_smul, ev_smul, e2 x]; grind
  · have := k x
    rw [ev_smul, ev_smul, ev_smul, ev_smul, e1 x, e2 x, ← this]
    grind
theorem gcd_der (e : Nat → Nat) : gcdP (prodF menuL e) (der (prodF menuL e)) = prodF menuL fun t => e t - 1 := by
  obtain ⟨T, hT, eT⟩ := sq_prod e menu_cop menu_sq
  have e1 : ∀ x, ev (prodF menuL e) x = ev (prodF menuL fun t => min 1 (e t)) x * ev (prodF menuL fun t => e t - 1) x := fun x => ev_prodF_add x fun t _ => by omega
  obtain ⟨u, v, c, hc, k⟩ := hT
  refine gcd_unique (low_menu e).tr (der_tr (low_menu e).tr) (.inl (low_menu e).ne) (low_menu _) (Dv.of_ev e1) (Dv.of_ev (q := T) fun x => by rw [ev_der, eT x]) ⟨u, v, c, hc, fun x => ?_⟩
  have := k x
  rw [ev_der, eT x, e1 x, ← this]
  grind
theorem quo_sq (e : Nat → Nat) : quo (prodF menuL e) (prodF menuL fun t => e t - 1) = some (prodF menuL fun t => min 1 (e t)) :=
  quo_some (low_menu _).tr (low_menu _).ne (low_menu _).tr fun x => ev_prodF_add x fun t _ => by omega
theorem quo_yes {n : Int} {D : P} {e f : Nat → Nat} (hn : n ≠ 0) (tD : Tr D) (nD : D ≠ []) (hD : ∀ x, ev D x = ev (prodF menuL f) x) (h : ∀ t, t < 8 → f t ≤ e t) : quo (smul n (prodF menuL e)) D = some (smul n (prodF menuL fun t => e t - f t)) := by
  have e1 : ∀ x, ev (prodF menuL e) x = ev (prodF menuL fun t => e t - f t) x * ev (prodF menuL f) x := fun x => ev_prodF_add x fun t ht => by have := h t ht; omega
  exact quo_some tD nD (tr_smul hn (low_menu _).tr) fun x => by rw [ev_smul, ev_smul, hD x, e1 x]; grind
theorem quo_no {n : Int} {D : P} {e f : Nat → Nat} (hn : n ≠ 0) (hD : ∀ x, ev D x = ev (prodF menuL f) x) (h : ¬ ∀ t, t < 8 → f t ≤ e t) : quo (smul n (prodF menuL e)) D = none := by
  cases hq : quo (smul n (prodF menuL e)) D with
  | none => rfl
  | some q =>
    exfalso
    obtain ⟨_, eq⟩ := quo_spec hq
    apply h
    exact le_of_dv menu_cop menu_low ⟨n, q, hn, fun x => by rw [← hD x, ← eq x, ev_smul]⟩
theorem der_eq (p : P) : der p = (List.range (p.length - 1)).map fun (i : Nat) => ((i : Int) + 1) * co p (i + 1) := by
  apply List.ext_getElem
  · rw [der_length, List.length_map, List.length_range]
  · intro i h1 h2
    have := co_der p i
    rw [co_lt h1] at this
    rw [this, List.getElem_map, List.getElem_range]
end Pl

set_option autoImplicit false
set_option linter.all false
namespace Pl
/-! ### the law's polynomials as they are built -/
def stepM (out m : P) : P := trim (mul out m)
def itM (m : P) : Nat → P → P
  | 0, out => out
  | n + 1, out => stepM (itM m n out) m
def builtTo (n : Int) (e : Nat → Nat) : Nat → P
  | 0 => [n]
  | i + 1 => itM (menuL.getD i []) (e i) (builtTo n e i)
structure Good (p : P) (c : Nat) : Prop where
  tr : Tr p
  ne : p ≠ []
  len : p.length ≤ 1 + 3 * c
  bd : Bd p (2 ^ (50 + 8 * c))
theorem Good.mono {p : P} {c c' : Nat} (h : Good p c) (hc : c ≤ c') : Good p c' := ⟨h.tr, h.ne, by have := h.len; omega, h.bd.mono (Nat.pow_le_pow_right (by omega) (by omega))⟩
theorem menu_small : ∀ m ∈ menuL, m.length ≤ 4 ∧ ∀ k, k < 4 → (co m k).natAbs ≤ 3 := by decide
theorem menu_bd {m : P} (h : m ∈ menuL) : Bd m 3 := fun k => by
  obtain ⟨h1, h2⟩ := menu_small m h
  by_cases hk : k < 4
  · exact h2 k hk
  · rw [co_ge (by omega)]; simp
theorem menu_mem {i : Nat} (h : i < 8) : menuL.getD i [] ∈ menuL := by
  have : i < menuL.length := h
  rw [List.getD_eq_getElem?_getD, List.getElem?_eq_getElem this]
  exact List.getElem_mem this
theorem stepM_eq {out m : P} (h1 : Tr out) (h2 : out ≠ []) (h3 : m ∈ menuL) : stepM out m = mul out m := trim_id (tr_mul h1 (menu_low m h3).1.tr h2 (menu_low m h3).1.ne)
theorem good_step {out m : P} {c : Nat} (h : Good out c) (hm : m ∈ menuL) (hc : c ≤ 23) : Good (stepM out m) (c + 1) := by
  obtain ⟨lm, _⟩ := menu_low m hm
  rw [stepM_eq h.tr h.ne hm]
  have hl := h.len
  refine ⟨tr_mul h.tr lm.tr h.ne lm.ne, mul_ne h.ne lm.ne, ?_, ?_⟩
  · rw [mul_length _ _ h.ne lm.ne]
    have := (menu_small m hm).1
    omega
  · refine (Bd.mul h.bd (menu_bd hm)).mono ?_
    have e : 50 + 8 * (c + 1) = (50 + 8 * c) + 8 := by omega
    rw [e, Nat.pow_add 2 (50 + 8 * c) 8]
    have e2 : (2 : Nat) ^ 8 = 256 := by decide
    rw [e2]
    generalize 2 ^ (50 + 8 * c) = A
    have : out.length * (A * 3) ≤ 84 * (A * 3) := Nat.mul_le_mul_right _ (by omega)
    omega
theorem good_it {m : P} (hm : m ∈ menuL) {out : P} {c : Nat} (h : Good out c) : ∀ n, c + n ≤ 24 → Good (itM m n out) (c + n)
  | 0, _ => h
  | n + 1, hn => good_step (c := c + n) (good_it hm h n (by omega)) hm (by omega)
theorem good_built {n : Int} {e : Nat → Nat} (hn : n ≠ 0) (hb : n.natAbs ≤ 2 ^ 50) (he : ∀ t, t < 8 → e t ≤ 3) : ∀ i, i ≤ 8 → Good (builtTo n e i) (3 * i)
  | 0, _ => ⟨by simp [builtTo, Tr, hn], by simp [builtTo], by simp [builtTo], fun k => by
      cases k with
      | zero => simpa [builtTo, co] using hb
      | succ k => simp [builtTo, co]⟩
  | i + 1, hi => by
    have ih := good_built hn hb he i (by omega)
    have h3 := he i (by omega)
    exact (good_it (menu_mem (by omega)) ih (e i) (by omega)).mono (by omega)
theorem ev_itM {m out : P} (x : Int) : ∀ n, ev (itM m n out) x = ev out x * ev m x ^ n
  | 0 => by simp [itM]
  | n + 1 => by rw [itM, stepM, ev_trim, ev_mul, ev_itM x n, Int.pow_succ]; grind
theorem ev_built (n : Int) (e : Nat → Nat) (x : Int) : ev (builtTo n e 8) x = n * ev (prodF menuL e) x := by
  simp only [builtTo, ev_itM, prodF, menuL, ev_mul, ev_powM, List.getD_cons_zero, List.getD_cons_succ]
  simp only [ev_cons, ev_nil, Int.mul_zero, Int.add_zero, Int.mul_assoc, Int.mul_one]
theorem built_eq {n : Int} {e : Nat → Nat} (hn : n ≠ 0) (hb : n.natAbs ≤ 2 ^ 50) (he : ∀ t, t < 8 → e t ≤ 3) : builtTo n e 8 = smul n (prodF menuL e) :=
  ext_all (fun x => by rw [ev_built, ev_smul]) (good_built hn hb he 8 (Nat.le_refl _)).tr (tr_smul hn (low_menu e).tr)
theorem good_smul {n : Int} {e : Nat → Nat} (hn : n ≠ 0) (hb : n.natAbs ≤ 2 ^ 50) (he : ∀ t, t < 8 → e t ≤ 3) : Good (smul n (prodF menuL e)) 24 := by
  rw [← built_eq hn hb he]
  exact good_built hn hb he 8 (Nat.le_refl _)
theorem good_prod {e : Nat → Nat} (he : ∀ t, t < 8 → e t ≤ 3) : Good (prodF menuL e) 24 := by
  have h := good_smul (n := 1) (by omega) (by decide) he
  have e1 : smul 1 (prodF menuL e) = prodF menuL e := by simp [smul]
  rw [e1] at h
  exact h
/-- how often one divides another -/
noncomputable def oftenGo : Nat → P → P → Nat
  | 0, _, _ => 0
  | n + 1, a, t => match quo a t with
    | none => 0
    | some q => 1 + oftenGo n q t
noncomputable def oftenV (a t : P) : Nat := oftenGo (a.length + 5) a t
theorem quo_shorter {a t q : P} (ta : Tr a) (na : a ≠ []) (tt : Tr t) (ht : 2 ≤ t.length) (h : quo a t = some q) : Tr q ∧ q ≠ [] ∧ q.length < a.length ∧ ∀ x, ev a x = ev q x * ev t x := by
  obtain ⟨tq, e⟩ := quo_spec h
  have nt : t ≠ [] := fun z => by rw [z] at ht; simp at ht
  have nq : q ≠ [] := by
    rintro rfl
    exact na (ext_all (fun x => by rw [e x]; simp) ta tr_nil)
  have e2 : a = mul q t := ext_all (fun x => by rw [ev_mul, e x]) ta (tr_mul tq tt nq nt)
  refine ⟨tq, nq, ?_, e⟩
  rw [e2, mul_length _ _ nq nt]
  have : 0 < q.length := List.length_pos_iff.mpr nq
  omega
end Pl

set_option autoImplicit false
set_option linter.all false
namespace Pl
theorem gs_gcd {p q : P} {N c s : Nat} (hN : N ≤ 1000) (hs : (c + 12) * (2 * N) ≤ s) (lp : p = [] ∨ Low p) (lq : q = [] ∨ Low q) (np : p.length ≤ N) (nq : q.length ≤ N) (bp : Bd p (2 ^ c)) (bq : Bd q (2 ^ c)) :
    ∀ (n : Nat) (r1 r2 : P), GS p q N s r1 r2 → r2.length < n → Bd (gcdGo n r1 r2) (2 ^ s) ∧ (gcdGo n r1 r2).length ≤ N
  | 0, r1, r2, _, h => absurd h (Nat.not_lt_zero _)
  | n + 1, r1, r2, G, h => by
    unfold gcdGo
    by_cases hz : r2 = []
    · rw [if_pos hz]; exact ⟨G.b1, G.n1⟩
    · rw [if_neg hz]
      have G' := GS.next hN hs lp lq np nq bp bq G hz
      exact gs_gcd hN hs lp lq np nq bp bq n _ _ G'.1 (by omega)
theorem gcd_small {a b : P} {N c s : Nat} (ta : Tr a) (tb : Tr b) (la : a.length ≤ N) (lb : b.length ≤ N) (hN : N ≤ 1000) (ba : Bd a (2 ^ c)) (bb : Bd b (2 ^ c)) (hs : (c + 12) * (2 * N) ≤ s) (hc : c ≤ s) : Bd (gcdP a b) (2 ^ s) ∧ (gcdP a b).length ≤ N := by
  have low : ∀ p : P, Tr p → prim p = [] ∨ Low (prim p) := fun p tp => by
    by_cases hp : p = []
    · left; rw [hp, prim_nil]
    · obtain ⟨_, _, _, _, h⟩ := prim_spec tp hp; exact .inr h
  have np : (prim a).length ≤ N := by rw [prim_length a ta]; exact la
  have nq : (prim b).length ≤ N := by rw [prim_length b tb]; exact lb
  have bp : Bd (prim a) (2 ^ c) := ba.prim ta
  have bq : Bd (prim b) (2 ^ c) := bb.prim tb
  have up : 2 ^ c ≤ 2 ^ s := Nat.pow_le_pow_right (by omega) hc
  exact gs_gcd hN hs (low a ta) (low b tb) np nq bp bq (b.length + 1) _ _ ⟨low a ta, low b tb, bp.mono up, bq.mono up, np, nq, .inl ⟨rfl, rfl⟩⟩ (by rw [prim_length b tb]; omega)
/-- the quotient's size -/
theorem quo_bd {a t q : P} {s : Nat} (ta : Tr a) (tt : Tr t) (nt : t ≠ []) (ba : Bd a (2 ^ s)) (bt : Bd t (2 ^ s)) (h : quo a t = some q) : Bd q (2 ^ (s + a.length * (s + 1))) ∧ q.length ≤ a.length + 1 - t.length := by
  obtain ⟨n, hn⟩ : ∃ n, n = a.length + 1 - t.length := ⟨_, rfl⟩
  have pt : 0 < t.length := List.length_pos_iff.mpr nt
  obtain ⟨_, eq⟩ := quo_spec h
  have go : ∀ i, i ≤ n → ∃ l o, DivS a t n s i l o ∧ Bd o (2 ^ (s + a.length * (s + 1))) := by
    intro i
    induction i with
    | zero => intro _; exact ⟨a, _, div_init nt hn ba, fun k => by rw [co_rep0]; simp⟩
    | succ i ih =>
      intro hi
      obtain ⟨l, o, D, bo⟩ := ih (by omega)
      have hll := D.ll
      have hlo := D.lo
      have hc := div_lead tt nt D (by omega) eq
      generalize co (sub q o) (n - 1 - i) = c at hc
      have hcb : c.natAbs ≤ 2 ^ (s + a.length * (s + 1)) := by
        have h1 := D.bd (n - 1 - i + (t.length - 1))
        rw [hc, Int.natAbs_mul] at h1
        have : 1 ≤ (lc t).natAbs := by have := lc_ne tt nt; omega
        have h2 := Nat.le_mul_of_pos_right c.natAbs this
        have h3 : 2 ^ (s + i * (s + 1)) ≤ 2 ^ (s + a.length * (s + 1)) := Nat.pow_le_pow_right (by omega) (Nat.add_le_add_left (Nat.mul_le_mul_right _ (by omega)) _)
        omega
      refine ⟨_, _, div_step (l' := add l (shift (n - 1 - i) (smul (-c) t))) tt nt bt D (by omega) hc (by rw [add_length, shift_length, smul_length]; omega) (fun x => by rw [ev_add, ev_shift, ev_smul]; grind), fun k => ?_⟩
      rw [co_set (by omega)]
      split
      · exact hcb
      · exact bo k
  obtain ⟨l, o, D, bo⟩ := go n (Nat.le_refl _)
  have hz : ∀ k, co l k = 0 := fun k => Classical.byContradiction fun hk => by
    rw [div_fail tt nt D hk] at h
    cases h
  have e := div_some ta tt nt hn D hz
  rw [h] at e
  cases e
  exact ⟨bo, by rw [D.lo, hn]; exact Nat.le_refl _⟩
theorem gcd_comm {a b : P} (ta : Tr a) (tb : Tr b) (hn : a ≠ [] ∨ b ≠ []) : gcdP b a = gcdP a b := by
  obtain ⟨h1, h2, h3, u, v, c, hc, h4⟩ := gcdP_spec ta tb hn
  exact gcd_unique tb ta hn.symm h1 h3 h2 ⟨v, u, c, hc, fun x => by have := h4 x; omega⟩
/-- the cofactors have nothing in common -/
theorem gcd_cofactors {a b q r : P} (ta : Tr a) (tb : Tr b) (hn : a ≠ [] ∨ b ≠ []) (tq : Tr q) (tr : Tr r) (hq : ∀ x, ev a x = ev q x * ev (gcdP a b) x) (hr : ∀ x, ev b x = ev r x * ev (gcdP a b) x) : gcdP q r = [1] := by
  obtain ⟨h1, h2, h3, u, v, c, hc, h4⟩ := gcdP_spec ta tb hn
  have hne : q ≠ [] ∨ r ≠ [] := by
    rcases hn with z | z
    · left; rintro rfl
      exact z (ext_all (fun x => by rw [hq x]; simp) ta tr_nil)
    · right; rintro rfl
      exact z (ext_all (fun x => by rw [hr x]; simp) tb tr_nil)
  refine gcd_unique tq tr hne low_one (Dv.of_ev (q := q) fun x => by simp) (Dv.of_ev (q := r) fun x => by simp) ⟨u, v, c, hc, fun x => ?_⟩
  have := ev_cancel (s := add (mul u q) (mul v r)) (t := [c]) h1.tr h1.ne (fun x => by
    have := h4 x
    rw [hq x, hr x] at this
    rw [ev_add, ev_mul, ev_mul]
    simp only [ev_cons, ev_nil]
    grind) x
  rw [ev_add, ev_mul, ev_mul] at this
  simpa using this
theorem gcd_nil : gcdP [] [] = [] := by
  unfold gcdP
  rw [prim_nil]
  rfl
end Pl

set_option autoImplicit false
set_option linter.all false
namespace Pl
theorem prodF_congr : ∀ {ms : List P} {a b : Nat → Nat}, (∀ t, t < ms.length → a t = b t) → prodF ms a = prodF ms b
  | [], _, _, _ => rfl
  | m :: ms, a, b, h => by
    have ih := prodF_congr (ms := ms) (a := fun i => a (i + 1)) (b := fun i => b (i + 1)) fun t ht => h (t + 1) (by simp; omega)
    show mul (powM m (a 0)) (prodF ms fun i => a (i + 1)) = mul (powM m (b 0)) (prodF ms fun i => b (i + 1))
    rw [ih, h 0 (by simp)]
theorem ev_prodF_mul (ms : List P) (f : Nat → Nat) (x : Int) : ∀ k, ev (prodF ms fun t => k * f t) x = ev (prodF ms f) x ^ k
  | 0 => by
    have : ∀ ms : List P, ev (prodF ms fun t => 0) x = 1 := by
      intro ms
      induction ms with
      | nil => simp [prodF]
      | cons m ms ih =>
        show ev (mul (powM m 0) (prodF ms fun i => 0)) x = 1
        rw [ev_mul, ih]
        simp [powM]
    simp only [Nat.zero_mul, Int.pow_zero]
    exact this ms
  | k + 1 => by
    rw [ev_prodF_add (a := fun t => k * f t) (b := f) x fun t _ => Nat.succ_mul _ _, ev_prodF_mul ms f x k, Int.pow_succ]
theorem oft_spec {n : Int} {D : P} {f : Nat → Nat} (hn : n ≠ 0) (tD : Tr D) (nD : D ≠ []) (hD : ∀ x, ev D x = ev (prodF menuL f) x) : ∀ (c fuel : Nat) (e : Nat → Nat),
    (∀ t, t < 8 → c * f t ≤ e t) → (∃ t, t < 8 ∧ e t < (c + 1) * f t) → c < fuel → oftenGo fuel (smul n (prodF menuL e)) D = c
  | _, 0, _, _, _, h => absurd h (Nat.not_lt_zero _)
  | 0, fuel + 1, e, _, ⟨t, ht, hlt⟩, _ => by
    rw [oftenGo, quo_no hn hD fun h => by have := h t ht; omega]
  | c + 1, fuel + 1, e, h1, ⟨t, ht, hlt⟩, hf => by
    have hle : ∀ t, t < 8 → f t ≤ e t := fun t ht => by
      have := h1 t ht
      rw [Nat.succ_mul] at this
      omega
    rw [oftenGo, quo_yes hn tD nD hD hle]
    show 1 + oftenGo fuel (smul n (prodF menuL fun t => e t - f t)) D = c + 1
    rw [oft_spec hn tD nD hD c fuel (fun t => e t - f t) (fun t ht => by
      have := h1 t ht
      rw [Nat.succ_mul] at this
      show c * f t ≤ e t - f t
      omega) ⟨t, ht, by
      have h2 : (c + 1 + 1) * f t = (c + 1) * f t + f t := Nat.succ_mul _ _
      have := hle t ht
      show e t - f t < (c + 1) * f t
      omega⟩ (by omega)]
    omega
def unit (t : Nat) : Nat → Nat := fun s => if s = t then 1 else 0
theorem ev_unit {t : Nat} (ht : t < 8) (x : Int) : ev (menuL.getD t []) x = ev (prodF menuL (unit t)) x := by
  have h : t = 0 ∨ t = 1 ∨ t = 2 ∨ t = 3 ∨ t = 4 ∨ t = 5 ∨ t = 6 ∨ t = 7 := by omega
  rcases h with rfl | rfl | rfl | rfl | rfl | rfl | rfl | rfl <;> simp [prodF, menuL, unit, powM, ev_mul]
/-- what a power of a divisor leaves is small -/
theorem rest_bd {n : Int} {D q : P} {e f : Nat → Nat} {k : Nat} (hn : n ≠ 0) (hb : n.natAbs ≤ 2 ^ 50) (he : ∀ t, t < 8 → e t ≤ 3) (lD : Low D) (hD : ∀ x, ev D x = ev (prodF menuL f) x) (tq : Tr q)
    (hq : ∀ x, ev (smul n (prodF menuL e)) x = ev q x * ev D x ^ k) : Bd q (2 ^ 242) := by
  have lp := low_powM lD k
  have h1 := quo_some lp.tr lp.ne tq fun x => by rw [hq x, ev_powM]
  have hP : ∀ x, ev (powM D k) x = ev (prodF menuL fun t => k * f t) x := fun x => by rw [ev_powM, ev_prodF_mul, hD x]
  by_cases h : ∀ t, t < 8 → k * f t ≤ e t
  · rw [quo_yes hn lp.tr lp.ne hP h] at h1
    cases h1
    exact (good_smul hn hb fun t ht => by have := he t ht; omega).bd
  · rw [quo_no hn hP h] at h1
    cases h1
end Pl

set_option Elab.async false
set_option linter.all false
set_option maxRecDepth 100000
set_option maxHeartbeats 8000000
set_option autoImplicit false
namespace K78
open PySem PySem.Spec L2 PD
open PyProof.Rows hiding St
def topS (i : Nat) : Stmt := PySem.Challenge.pw_unsaidsizes_k78_factors_of_polynomials.main.body.getD i (.Pass ⟨0, 0, 0, 0⟩)
section
variable {P : Program} {w : World} {K : PySem.W.Frag} {mg : Str → Option Value} {base : Heap}
/-! ### trimmed -/
abbrev s_trimmed : Stmt := topS 1
abbrev N_trimmed : List Str := ["numbers", "size"]
theorem sc_trimmed : FnScope N_trimmed ["numbers"] (defScope s_trimmed) := ⟨rfl, rfl, rfl, by decide +kernel, rfl, by decide +kernel, by decide +kernel⟩
def T_trimmed : PTS :=
 (pSeq (pSetV 1 (fUn oLen (fVar 0)))
 (pSeq (pWhile (fAnd (fB (fBin oGt (fVarV 1) (fC (.int 0)))) (fB (fBin oEq (fIx (fVar 0) (fBin oSub (fVarV 1) (fC (.int 1)))) (fC (.int 0)))))
 (pSetV 1 (fBin oSub (fVarV 1) (fC (.int 1)))))
 (pRetF (fList (fL (fSl (fVar 0) fO0 (fO1 (fVarV 1))))))))
theorem j_trimmed (B : Bi mg) (Z : Bz P base) {f : Addr} {cdv : Value} {A : Around} {outer : List Env} {s : Shared} {H : Hp} {E : XK} (hr : Room 40 (A.deeper (envOfC "trimmed" (defScope s_trimmed) s.heap.objs.size f cdv))) : ∃ t, JSs (cxOf CX0 P w K mg base N_trimmed "trimmed" (defScope s_trimmed) f cdv A outer s H E).nox K (defBody s_trimmed) t (T_trimmed) :=
 ⟨_, (jss_cons (js_setV 1 sc_trimmed.nd (jv_len (by rfl) B.len (jr_v 0)))
 (jss_cons (js_while (jw_and (jt_gt (jv_v 1) jv_int) (jw_and1 (jt_eq hr (jv_ix (jr_v 0) (jv_sub (jv_v 1) jv_int)) jv_int))).t (jss_one (js_setV 1 sc_trimmed.nd (jv_sub (jv_v 1) jv_int))))
 (jss_one (js_retF (jf_list (by rfl) B.list (jf_sl (jr_v 0) jo_no (jo_some (jv_v 1))).v.r)))))⟩
theorem c_trimmed (B : Bi mg) (Z : Bz P base) {f : Addr} {fd : FuncData} (F : Fun K "trimmed" "trimmed" s_trimmed f fd) (hm : mg "trimmed" = some (.ref f)) {gd : GD} (hlen : ∀ ds r, gd ds = some r → ds.length = 1)
  (hT : ∀ ds d b, gd ds = some (d, b) → T_trimmed (endsOf d b) (startE 2 ds)) : Callee P w K mg base 41 "trimmed" ["numbers"] gd :=
  ⟨f, fd, fn_ok2 F sc_trimmed hlen (fun cdv A outer s H E hr => j_trimmed B Z hr) hT, hm, F.kp, F.binds fun _ _ _ _ _ _ us hl => match us, hl with | [_], _ => rfl⟩
/-! ### plus -/
abbrev s_plus : Stmt := topS 2
abbrev N_plus : List Str := ["one", "two", "size", "total", "k"]
theorem sc_plus : FnScope N_plus ["one", "two"] (defScope s_plus) := ⟨rfl, rfl, rfl, by decide +kernel, rfl, by decide +kernel, by decide +kernel⟩
def T_plus (g_trimmed : GD) : PTS :=
 (pSeq (pSetV 2 (fCall oMax2 (fCons (fUn oLen (fVar 0)) (fCons (fUn oLen (fVar 1)) fNil))))
 (pSeq (pSetF 3 (fRep (fL (fLst (fCons (fC (.int 0)) fNil))) (fVarV 2)))
 (pSeq (pFor (iR1 (fCons (fUn oLen (fVar 0)) fNil)) (bN 4)
 (pItem 3 (fVarV 4) (fIx (fVar 0) (fVarV 4))))
 (pSeq (pFor (iR1 (fCons (fUn oLen (fVar 1)) fNil)) (bN 4)
 (pItem 3 (fVarV 4) (fBin oAdd (fIx (fVar 3) (fVarV 4)) (fIx (fVar 1) (fVarV 4)))))
 (pDrop [3] (pRetF (fDefF g_trimmed (fCons (fVarV 3) fNil))))))))
theorem j_plus {g_trimmed : GD} (C_trimmed : Callee P w K mg base 41 "trimmed" ["numbers"] g_trimmed) (B : Bi mg) (Z : Bz P base) {f : Addr} {cdv : Value} {A : Around} {outer : List Env} {s : Shared} {H : Hp} {E : XK} (hr : Room 41 (A.deeper (envOfC "plus" (defScope s_plus) s.heap.objs.size f cdv))) : ∃ t, JSs (cxOf CX0 P w K mg base N_plus "plus" (defScope s_plus) f cdv A outer s H E).nox K (defBody s_plus) t (T_plus g_trimmed) :=
 ⟨_, (jss_cons (js_setV 2 sc_plus.nd (jv_max2 rfl (by rfl) B.max (ja_cons (jv_len (by rfl) B.len (jr_v 0)) (ja_cons (jv_len (by rfl) B.len (jr_v 1)) ja_nil))))
 (jss_cons (js_setF 3 sc_plus.nd (jf_rep (jf_lst (ja_cons jv_int ja_nil)).v (jv_v 2)))
 (jss_cons (js_for rfl (ji_r1 (by rfl) B.range (ja_cons (jv_len (by rfl) B.len (jr_v 0)) ja_nil)) (jg_n 4 sc_plus.nd) (jss_one (js_item 3 (jr_v 3) (jv_v 4) (jv_ix (jr_v 0) (jv_v 4)))))
 (jss_cons (js_for rfl (ji_r1 (by rfl) B.range (ja_cons (jv_len (by rfl) B.len (jr_v 1)) ja_nil)) (jg_n 4 sc_plus.nd) (jss_one (js_item 3 (jr_v 3) (jv_v 4) (jv_add (jv_ix (jr_v 3) (jv_v 4)) (jv_ix (jr_v 1) (jv_v 4))))))
 (jss_one (js_drop [3] (js_retF (jf_d C_trimmed (hr.mono (by decide)) (by rfl) (ja_cons (jv_v 3) ja_nil)))))))))⟩
theorem c_plus {g_trimmed : GD} (C_trimmed : Callee P w K mg base 41 "trimmed" ["numbers"] g_trimmed) (B : Bi mg) (Z : Bz P base) {f : Addr} {fd : FuncData} (F : Fun K "plus" "plus" s_plus f fd) (hm : mg "plus" = some (.ref f)) {gd : GD} (hlen : ∀ ds r, gd ds = some r → ds.length = 2)
  (hT : ∀ ds d b, gd ds = some (d, b) → T_plus g_trimmed (endsOf d b) (startE 5 ds)) : Callee P w K mg base 42 "plus" ["one", "two"] gd :=
  ⟨f, fd, fn_ok2 F sc_plus hlen (fun cdv A outer s H E hr => j_plus C_trimmed B Z hr) hT, hm, F.kp, F.binds fun _ _ _ _ _ _ us hl => match us, hl with | [_, _], _ => rfl⟩
/-! ### scaled -/
abbrev s_scaled : Stmt := topS 3
abbrev N_scaled : List Str := ["one", "number", "part"]
theorem sc_scaled : FnScope N_scaled ["one", "number"] (defScope s_scaled) := ⟨rfl, rfl, rfl, by decide +kernel, rfl, by decide +kernel, by decide +kernel⟩
def cs_scaled_18_11 : Scope := { kind := .function, names := [(".0", .local), ("part", .local), ("number", .free)], isGenerator := false, isCoroutine := false, more := [] }
def T_scaled : PTS :=
 (pSeq (pIf (fB (fBin oEq (fVarV 1) (fC (.int 0))))
 (pRetF (fLst fNil))
 pNext)
 (pRetF (fComp [2] (iL (fVarV 0)) (bN 2) fYes (fBin oMul (fVarV 1) (fVarV 2)))))
theorem j_scaled (B : Bi mg) (Z : Bz P base) {f : Addr} {cdv : Value} {A : Around} {outer : List Env} {s : Shared} {H : Hp} {E : XK} (hr : Room 40 (A.deeper (envOfC "scaled" (defScope s_scaled) s.heap.objs.size f cdv))) : ∃ t, JSs (cxOf CX0 P w K mg base N_scaled "scaled" (defScope s_scaled) f cdv A outer s H E).nox K (defBody s_scaled) t (T_scaled) :=
 ⟨_, (jss_cons (js_if (jt_eq hr (jv_v 1) jv_int) (jss_one (js_retF (jf_lst ja_nil))) jss_nil)
 (jss_one (js_retF (jf_lc (own := [("part", 2)]) rfl sc_scaled.nd (ji_l (jv_v 0)) (blkOk_by (N := N_scaled) (sc := defScope s_scaled) (by decide +kernel)) (fun _ _ _ _ _ => (jg_n 2 sc_scaled.nd)) (fun _ _ _ _ _ => jts_nil) (fun _ _ _ _ _ => (jv_mul (jv_v 1) (jv_v 2)))))))⟩
theorem c_scaled (B : Bi mg) (Z : Bz P base) {f : Addr} {fd : FuncData} (F : Fun K "scaled" "scaled" s_scaled f fd) (hm : mg "scaled" = some (.ref f)) {gd : GD} (hlen : ∀ ds r, gd ds = some r → ds.length = 2)
  (hT : ∀ ds d b, gd ds = some (d, b) → T_scaled (endsOf d b) (startE 3 ds)) : Callee P w K mg base 41 "scaled" ["one", "number"] gd :=
  ⟨f, fd, fn_ok2 F sc_scaled hlen (fun cdv A outer s H E hr => j_scaled B Z hr) hT, hm, F.kp, F.binds fun _ _ _ _ _ _ us hl => match us, hl with | [_, _], _ => rfl⟩
/-! ### raised -/
abbrev s_raised : Stmt := topS 4
abbrev N_raised : List Str := ["one", "k"]
theorem sc_raised : FnScope N_raised ["one", "k"] (defScope s_raised) := ⟨rfl, rfl, rfl, by decide +kernel, rfl, by decide +kernel, by decide +kernel⟩
def T_raised : PTS :=
 (pSeq (pIf (fB (fBin oEq (fUn oLen (fVar 0)) (fC (.int 0))))
 (pRetF (fLst fNil))
 pNext)
 (pRetV (fBin oAdd (fBin oMul (fL (fLst (fCons (fC (.int 0)) fNil))) (fVarV 1)) (fL (fList (fVar 0))))))
theorem j_raised (B : Bi mg) (Z : Bz P base) {f : Addr} {cdv : Value} {A : Around} {outer : List Env} {s : Shared} {H : Hp} {E : XK} (hr : Room 40 (A.deeper (envOfC "raised" (defScope s_raised) s.heap.objs.size f cdv))) : ∃ t, JSs (cxOf CX0 P w K mg base N_raised "raised" (defScope s_raised) f cdv A outer s H E).nox K (defBody s_raised) t (T_raised) :=
 ⟨_, (jss_cons (js_if (jt_eq hr (jv_len (by rfl) B.len (jr_v 0)) jv_int) (jss_one (js_retF (jf_lst ja_nil))) jss_nil)
 (jss_one (js_retV (jv_add (jv_mul (jf_lst (ja_cons jv_int ja_nil)).v (jv_v 1)) (jf_list (by rfl) B.list (jr_v 0)).v))))⟩
theorem c_raised (B : Bi mg) (Z : Bz P base) {f : Addr} {fd : FuncData} (F : Fun K "raised" "raised" s_raised f fd) (hm : mg "raised" = some (.ref f)) {gd : GD} (hlen : ∀ ds r, gd ds = some r → ds.length = 2)
  (hT : ∀ ds d b, gd ds = some (d, b) → T_raised (endsOf d b) (startE 2 ds)) : Callee P w K mg base 41 "raised" ["one", "k"] gd :=
  ⟨f, fd, fn_ok2 F sc_raised hlen (fun cdv A outer s H E hr => j_raised B Z hr) hT, hm, F.kp, F.binds fun _ _ _ _ _ _ us hl => match us, hl with | [_, _], _ => rfl⟩
/-! ### common_divisor -/
abbrev s_common_divisor : Stmt := topS 6
abbrev N_common_divisor : List Str := ["one", "two"]
theorem sc_common_divisor : FnScope N_common_divisor ["one", "two"] (defScope s_common_divisor) := ⟨rfl, rfl, rfl, by decide +kernel, rfl, by decide +kernel, by decide +kernel⟩
def T_common_divisor : PTS :=
 (pSeq (pSetV 0 (fCall oAbs (fCons (fVarV 0) fNil)))
 (pSeq (pSetV 1 (fCall oAbs (fCons (fVarV 1) fNil)))
 (pSeq (pWhile (fTru (fVar 1))
 (pPar 0 1 (fCons (fVarV 1) (fCons (fBin oMod (fVarV 0) (fVarV 1)) fNil))))
 (pRetN 0))))
theorem j_common_divisor (B : Bi mg) (Z : Bz P base) {f : Addr} {cdv : Value} {A : Around} {outer : List Env} {s : Shared} {H : Hp} {E : XK} (hr : Room 40 (A.deeper (envOfC "common_divisor" (defScope s_common_divisor) s.heap.objs.size f cdv))) : ∃ t, JSs (cxOf CX0 P w K mg base N_common_divisor "common_divisor" (defScope s_common_divisor) f cdv A outer s H E).nox K (defBody s_common_divisor) t (T_common_divisor) :=
 ⟨_, (jss_cons (js_setV 0 sc_common_divisor.nd (jv_abs (by rfl) B.abs (ja_cons (jv_v 0) ja_nil)))
 (jss_cons (js_setV 1 sc_common_divisor.nd (jv_abs (by rfl) B.abs (ja_cons (jv_v 1) ja_nil)))
 (jss_cons (js_while (jt_tru (jr_v 1)) (jss_one (js_par (i := 0) (j := 1) rfl sc_common_divisor.nd rfl rfl (by decide) rfl rfl (ja_cons (jv_v 1) (ja_cons (jv_mod (jv_v 0) (jv_v 1)) ja_nil)) (by rfl))))
 (jss_one (js_retN (jr_v 0))))))⟩
theorem c_common_divisor (B : Bi mg) (Z : Bz P base) {f : Addr} {fd : FuncData} (F : Fun K "common_divisor" "common_divisor" s_common_divisor f fd) (hm : mg "common_divisor" = some (.ref f)) {gd : GD} (hlen : ∀ ds r, gd ds = some r → ds.length = 2)
  (hT : ∀ ds d b, gd ds = some (d, b) → T_common_divisor (endsOf d b) (startE 2 ds)) : Callee P w K mg base 41 "common_divisor" ["one", "two"] gd :=
  ⟨f, fd, fn_ok2 F sc_common_divisor hlen (fun cdv A outer s H E hr => j_common_divisor B Z hr) hT, hm, F.kp, F.binds fun _ _ _ _ _ _ us hl => match us, hl with | [_, _], _ => rfl⟩
/-! ### primitive -/
abbrev s_primitive : Stmt := topS 8
abbrev N_primitive : List Str := ["one", "common", "number"]
theorem sc_primitive : FnScope N_primitive ["one"] (defScope s_primitive) := ⟨rfl, rfl, rfl, by decide +kernel, rfl, by decide +kernel, by decide +kernel⟩
def cs_primitive_39_11 : Scope := { kind := .function, names := [(".0", .local), ("number", .local), ("common", .free)], isGenerator := false, isCoroutine := false, more := [] }
def T_primitive (g_common_divisor : GD) : PTS :=
 (pSeq (pSetV 1 (fC (.int 0)))
 (pSeq (pFor (iL (fVarV 0)) (bN 2)
 (pSetV 1 (fDef g_common_divisor (fCons (fVarV 1) (fCons (fVarV 2) fNil)))))
 (pSeq (pIf (fB (fBin oEq (fVarV 1) (fC (.int 0))))
 (pRetF (fLst fNil))
 pNext)
 (pSeq (pIf (fB (fBin oLt (fIx (fVar 0) (fUn oNeg (fC (.int 1)))) (fC (.int 0))))
 (pSetV 1 (fUn oNeg (fVarV 1)))
 pNext)
 (pRetF (fComp [2] (iL (fVarV 0)) (bN 2) fYes (fBin oDivZ (fVarV 2) (fVarV 1))))))))
theorem j_primitive {g_common_divisor : GD} (C_common_divisor : Callee P w K mg base 41 "common_divisor" ["one", "two"] g_common_divisor) (B : Bi mg) (Z : Bz P base) {f : Addr} {cdv : Value} {A : Around} {outer : List Env} {s : Shared} {H : Hp} {E : XK} (hr : Room 41 (A.deeper (envOfC "primitive" (defScope s_primitive) s.heap.objs.size f cdv))) : ∃ t, JSs (cxOf CX0 P w K mg base N_primitive "primitive" (defScope s_primitive) f cdv A outer s H E).nox K (defBody s_primitive) t (T_primitive g_common_divisor) :=
 ⟨_, (jss_cons (js_setV 1 sc_primitive.nd jv_int)
 (jss_cons (js_for rfl (ji_l (jv_v 0)) (jg_n 2 sc_primitive.nd) (jss_one (js_setV 1 sc_primitive.nd (jv_d C_common_divisor (hr.mono (by decide)) (by rfl) (ja_cons (jv_v 1) (ja_cons (jv_v 2) ja_nil))))))
 (jss_cons (js_if (jt_eq hr (jv_v 1) jv_int) (jss_one (js_retF (jf_lst ja_nil))) jss_nil)
 (jss_cons (js_if (jt_lt (jv_ix (jr_v 0) (jv_neg jv_int)) jv_int) (jss_one (js_setV 1 sc_primitive.nd (jv_neg (jv_v 1)))) jss_nil)
 (jss_one (js_retF (jf_lc (own := [("number", 2)]) rfl sc_primitive.nd (ji_l (jv_v 0)) (blkOk_by (N := N_primitive) (sc := defScope s_primitive) (by decide +kernel)) (fun _ _ _ _ _ => (jg_n 2 sc_primitive.nd)) (fun _ _ _ _ _ => jts_nil) (fun _ _ _ _ _ => (jv_divZ Z hr (jv_v 2) (jv_v 1))))))))))⟩
theorem c_primitive {g_common_divisor : GD} (C_common_divisor : Callee P w K mg base 41 "common_divisor" ["one", "two"] g_common_divisor) (B : Bi mg) (Z : Bz P base) {f : Addr} {fd : FuncData} (F : Fun K "primitive" "primitive" s_primitive f fd) (hm : mg "primitive" = some (.ref f)) {gd : GD} (hlen : ∀ ds r, gd ds = some r → ds.length = 1)
  (hT : ∀ ds d b, gd ds = some (d, b) → T_primitive g_common_divisor (endsOf d b) (startE 3 ds)) : Callee P w K mg base 42 "primitive" ["one"] gd :=
  ⟨f, fd, fn_ok2 F sc_primitive hlen (fun cdv A outer s H E hr => j_primitive C_common_divisor B Z hr) hT, hm, F.kp, F.binds fun _ _ _ _ _ _ us hl => match us, hl with | [_], _ => rfl⟩
/-! ### remainder -/
abbrev s_remainder : Stmt := topS 9
abbrev N_remainder : List Str := ["one", "two", "left", "part"]
theorem sc_remainder : FnScope N_remainder ["one", "two"] (defScope s_remainder) := ⟨rfl, rfl, rfl, by decide +kernel, rfl, by decide +kernel, by decide +kernel⟩
def T_remainder (g_primitive : GD) (g_raised : GD) (g_scaled : GD) (g_plus : GD) : PTS :=
 (pSeq (pSetF 2 (fDefF g_primitive (fCons (fVarV 0) fNil)))
 (pSeq (pWhile (fB (fBin oGe (fUn oLen (fVar 2)) (fUn oLen (fVar 1))))
 (pSeq (pSetV 3 (fDef g_raised (fCons (fDef g_scaled (fCons (fVarV 1) (fCons (fUn oNeg (fIx (fVar 2) (fUn oNeg (fC (.int 1))))) fNil))) (fCons (fBin oSub (fUn oLen (fVar 2)) (fUn oLen (fVar 1))) fNil))))
 (pDrop [2] (pSetF 2 (fDefF g_primitive (fCons (fDef g_plus (fCons (fDef g_scaled (fCons (fVarV 2) (fCons (fIx (fVar 1) (fUn oNeg (fC (.int 1)))) fNil))) (fCons (fVarV 3) fNil))) fNil))))))
 (pRetN 2)))
theorem j_remainder {g_primitive : GD} (C_primitive : Callee P w K mg base 42 "primitive" ["one"] g_primitive) {g_raised : GD} (C_raised : Callee P w K mg base 41 "raised" ["one", "k"] g_raised) {g_scaled : GD} (C_scaled : Callee P w K mg base 41 "scaled" ["one", "number"] g_scaled) {g_plus : GD} (C_plus : Callee P w K mg base 42 "plus" ["one", "two"] g_plus) (B : Bi mg) (Z : Bz P base) {f : Addr} {cdv : Value} {A : Around} {outer : List Env} {s : Shared} {H : Hp} {E : XK} (hr : Room 42 (A.deeper (envOfC "remainder" (defScope s_remainder) s.heap.objs.size f cdv))) : ∃ t, JSs (cxOf CX0 P w K mg base N_remainder "remainder" (defScope s_remainder) f cdv A outer s H E).nox K (defBody s_remainder) t (T_remainder g_primitive g_raised g_scaled g_plus) :=
 ⟨_, (jss_cons (js_setF 2 sc_remainder.nd (jf_d C_primitive (hr.mono (by decide)) (by rfl) (ja_cons (jv_v 0) ja_nil)))
 (jss_cons (js_while (jt_ge (jv_len (by rfl) B.len (jr_v 2)) (jv_len (by rfl) B.len (jr_v 1))) (jss_cons (js_setV 3 sc_remainder.nd (jv_d C_raised (hr.mono (by decide)) (by rfl) (ja_cons (jv_d C_scaled (hr.mono (by decide)) (by rfl) (ja_cons (jv_v 1) (ja_cons (jv_neg (jv_ix (jr_v 2) (jv_neg jv_int))) ja_nil))) (ja_cons (jv_sub (jv_len (by rfl) B.len (jr_v 2)) (jv_len (by rfl) B.len (jr_v 1))) ja_nil))))
 (jss_one (js_drop [2] (js_setF 2 sc_remainder.nd (jf_d C_primitive (hr.mono (by decide)) (by rfl) (ja_cons (jv_d C_plus (hr.mono (by decide)) (by rfl) (ja_cons (jv_d C_scaled (hr.mono (by decide)) (by rfl) (ja_cons (jv_v 2) (ja_cons (jv_ix (jr_v 1) (jv_neg jv_int)) ja_nil))) (ja_cons (jv_v 3) ja_nil))) ja_nil)))))))
 (jss_one (js_retN (jr_v 2)))))⟩
theorem c_remainder {g_primitive : GD} (C_primitive : Callee P w K mg base 42 "primitive" ["one"] g_primitive) {g_raised : GD} (C_raised : Callee P w K mg base 41 "raised" ["one", "k"] g_raised) {g_scaled : GD} (C_scaled : Callee P w K mg base 41 "scaled" ["one", "number"] g_scaled) {g_plus : GD} (C_plus : Callee P w K mg base 42 "plus" ["one", "two"] g_plus) (B : Bi mg) (Z : Bz P base) {f : Addr} {fd : FuncData} (F : Fun K "remainder" "remainder" s_remainder f fd) (hm : mg "remainder" = some (.ref f)) {gd : GD} (hlen : ∀ ds r, gd ds = some r → ds.length = 2)
  (hT : ∀ ds d b, gd ds = some (d, b) → T_remainder g_primitive g_raised g_scaled g_plus (endsOf d b) (startE 4 ds)) : Callee P w K mg base 43 "remainder" ["one", "two"] gd :=
  ⟨f, fd, fn_ok2 F sc_remainder hlen (fun cdv A outer s H E hr => j_remainder C_primitive C_raised C_scaled C_plus B Z hr) hT, hm, F.kp, F.binds fun _ _ _ _ _ _ us hl => match us, hl with | [_, _], _ => rfl⟩
/-! ### gcd -/
abbrev s_gcd : Stmt := topS 10
abbrev N_gcd : List Str := ["one", "two"]
theorem sc_gcd : FnScope N_gcd ["one", "two"] (defScope s_gcd) := ⟨rfl, rfl, rfl, by decide +kernel, rfl, by decide +kernel, by decide +kernel⟩
def T_gcd (g_primitive : GD) (g_remainder : GD) : PTS :=
 (pSeq (pSetF 0 (fDefF g_primitive (fCons (fVarV 0) fNil)))
 (pSeq (pSetF 1 (fDefF g_primitive (fCons (fVarV 1) fNil)))
 (pSeq (pWhile (fB (fBin oGt (fUn oLen (fVar 1)) (fC (.int 0))))
 (pMove 0 1 (fWhole [0, 1] (fDefF g_remainder (fCons (fVarV 0) (fCons (fVarV 1) fNil))))))
 (pRetN 0))))
theorem j_gcd {g_primitive : GD} (C_primitive : Callee P w K mg base 42 "primitive" ["one"] g_primitive) {g_remainder : GD} (C_remainder : Callee P w K mg base 43 "remainder" ["one", "two"] g_remainder) (B : Bi mg) (Z : Bz P base) {f : Addr} {cdv : Value} {A : Around} {outer : List Env} {s : Shared} {H : Hp} {E : XK} (hr : Room 43 (A.deeper (envOfC "gcd" (defScope s_gcd) s.heap.objs.size f cdv))) : ∃ t, JSs (cxOf CX0 P w K mg base N_gcd "gcd" (defScope s_gcd) f cdv A outer s H E).nox K (defBody s_gcd) t (T_gcd g_primitive g_remainder) :=
 ⟨_, (jss_cons (js_setF 0 sc_gcd.nd (jf_d C_primitive (hr.mono (by decide)) (by rfl) (ja_cons (jv_v 0) ja_nil)))
 (jss_cons (js_setF 1 sc_gcd.nd (jf_d C_primitive (hr.mono (by decide)) (by rfl) (ja_cons (jv_v 1) ja_nil)))
 (jss_cons (js_while (jt_gt (jv_len (by rfl) B.len (jr_v 1)) jv_int) (jss_one (js_move (i := 0) (j := 1) rfl sc_gcd.nd rfl rfl (by decide) rfl rfl (jr_v 1) (jf_whole [0, 1] (jf_d C_remainder (hr.mono (by decide)) (by rfl) (ja_cons (jv_v 0) (ja_cons (jv_v 1) ja_nil)))) (by rfl))))
 (jss_one (js_retN (jr_v 0))))))⟩
theorem c_gcd {g_primitive : GD} (C_primitive : Callee P w K mg base 42 "primitive" ["one"] g_primitive) {g_remainder : GD} (C_remainder : Callee P w K mg base 43 "remainder" ["one", "two"] g_remainder) (B : Bi mg) (Z : Bz P base) {f : Addr} {fd : FuncData} (F : Fun K "gcd" "gcd" s_gcd f fd) (hm : mg "gcd" = some (.ref f)) {gd : GD} (hlen : ∀ ds r, gd ds = some r → ds.length = 2)
  (hT : ∀ ds d b, gd ds = some (d, b) → T_gcd g_primitive g_remainder (endsOf d b) (startE 2 ds)) : Callee P w K mg base 44 "gcd" ["one", "two"] gd :=
  ⟨f, fd, fn_ok2 F sc_gcd hlen (fun cdv A outer s H E hr => j_gcd C_primitive C_remainder B Z hr) hT, hm, F.kp, F.binds fun _ _ _ _ _ _ us hl => match us, hl with | [_, _], _ => rfl⟩
/-! ### divided -/
abbrev s_divided : Stmt := topS 11
abbrev N_divided : List Str := ["one", "two", "left", "many", "out", "k", "number", "at"]
theorem sc_divided : FnScope N_divided ["one", "two"] (defScope s_divided) := ⟨rfl, rfl, rfl, by decide +kernel, rfl, by decide +kernel, by decide +kernel⟩
def cs_divided_63_11 : Scope := { kind := .function, names := [(".0", .local), ("number", .local)], isGenerator := false, isCoroutine := false, more := [] }
def T_divided : PTS :=
 (pSeq (pSetF 2 (fList (fVar 0)))
 (pSeq (pSetV 3 (fUn oLen (fVar 1)))
 (pSeq (pSetF 4 (fRep (fL (fLst (fCons (fC (.int 0)) fNil))) (fCall oMax2 (fCons (fC (.int 0)) (fCons (fBin oAdd (fBin oSub (fUn oLen (fVar 0)) (fVarV 3)) (fC (.int 1))) fNil)))))
 (pSeq (pFor (iRev1 (fUn oLen (fVar 4))) (bN 5)
 (pSeq (pSetV 6 (fIx (fVar 2) (fBin oSub (fBin oAdd (fVarV 5) (fVarV 3)) (fC (.int 1)))))
 (pSeq (pIf (fB (fBin oNe (fBin oMod (fVarV 6) (fIx (fVar 1) (fUn oNeg (fC (.int 1))))) (fC (.int 0))))
 (pRetV (fC .none))
 pNext)
 (pSeq (pItem 4 (fVarV 5) (fBin oDivZ (fVarV 6) (fIx (fVar 1) (fUn oNeg (fC (.int 1))))))
 (pFor (iR1 (fCons (fVarV 3) fNil)) (bN 7)
 (pItem 2 (fBin oAdd (fVarV 5) (fVarV 7)) (fBin oSub (fIx (fVar 2) (fBin oAdd (fVarV 5) (fVarV 7))) (fBin oMul (fIx (fVar 4) (fVarV 5)) (fIx (fVar 1) (fVarV 7))))))))))
 (pSeq (pDrop [2] (pIf (fB (fCall oAny (fCons (fL (fComp [6] (iL (fVarV 2)) (bN 6) fYes (fBin oNe (fVarV 6) (fC (.int 0))))) fNil)))
 (pRetV (fC .none))
 pNext))
 (pRetN 4))))))
theorem j_divided (B : Bi mg) (Z : Bz P base) {f : Addr} {cdv : Value} {A : Around} {outer : List Env} {s : Shared} {H : Hp} {E : XK} (hr : Room 40 (A.deeper (envOfC "divided" (defScope s_divided) s.heap.objs.size f cdv))) : ∃ t, JSs (cxOf CX0 P w K mg base N_divided "divided" (defScope s_divided) f cdv A outer s H E).nox K (defBody s_divided) t (T_divided) :=
 ⟨_, (jss_cons (js_setF 2 sc_divided.nd (jf_list (by rfl) B.list (jr_v 0)))
 (jss_cons (js_setV 3 sc_divided.nd (jv_len (by rfl) B.len (jr_v 1)))
 (jss_cons (js_setF 4 sc_divided.nd (jf_rep (jf_lst (ja_cons jv_int ja_nil)).v (jv_max2 rfl (by rfl) B.max (ja_cons jv_int (ja_cons (jv_add (jv_sub (jv_len (by rfl) B.len (jr_v 0)) (jv_v 3)) jv_int) ja_nil)))))
 (jss_cons (js_for rfl (ji_rev1 (by rfl) B.reversed (by rfl) B.range (jv_len (by rfl) B.len (jr_v 4))) (jg_n 5 sc_divided.nd) (jss_cons (js_setV 6 sc_divided.nd (jv_ix (jr_v 2) (jv_sub (jv_add (jv_v 5) (jv_v 3)) jv_int)))
 (jss_cons (js_if (jt_ne hr (jv_mod (jv_v 6) (jv_ix (jr_v 1) (jv_neg jv_int))) jv_int) (jss_one (js_retV jv_non)) jss_nil)
 (jss_cons (js_item 4 (jr_v 4) (jv_v 5) (jv_divZ Z hr (jv_v 6) (jv_ix (jr_v 1) (jv_neg jv_int))))
 (jss_one (js_for rfl (ji_r1 (by rfl) B.range (ja_cons (jv_v 3) ja_nil)) (jg_n 7 sc_divided.nd) (jss_one (js_item 2 (jr_v 2) (jv_add (jv_v 5) (jv_v 7)) (jv_sub (jv_ix (jr_v 2) (jv_add (jv_v 5) (jv_v 7))) (jv_mul (jv_ix (jr_v 4) (jv_v 5)) (jv_ix (jr_v 1) (jv_v 7))))))))))))
 (jss_cons (js_drop [2] (js_if (jt_val (jv_any rfl (by rfl) B.any (ja_cons (jf_lc (own := [("number", 6)]) rfl sc_divided.nd (ji_l (jv_v 2)) (blkOk_by (N := N_divided) (sc := defScope s_divided) (by decide +kernel)) (fun _ _ _ _ _ => (jg_n 6 sc_divided.nd)) (fun _ _ _ _ _ => jts_nil) (fun _ _ _ _ _ => (jv_ne hr (jv_v 6) jv_int))).v ja_nil))) (jss_one (js_retV jv_non)) jss_nil))
 (jss_one (js_retN (jr_v 4))))))))⟩
theorem c_divided (B : Bi mg) (Z : Bz P base) {f : Addr} {fd : FuncData} (F : Fun K "divided" "divided" s_divided f fd) (hm : mg "divided" = some (.ref f)) {gd : GD} (hlen : ∀ ds r, gd ds = some r → ds.length = 2)
  (hT : ∀ ds d b, gd ds = some (d, b) → T_divided (endsOf d b) (startE 8 ds)) : Callee P w K mg base 41 "divided" ["one", "two"] gd :=
  ⟨f, fd, fn_ok2 F sc_divided hlen (fun cdv A outer s H E hr => j_divided B Z hr) hT, hm, F.kp, F.binds fun _ _ _ _ _ _ us hl => match us, hl with | [_, _], _ => rfl⟩
/-! ### often -/
abbrev s_often : Stmt := topS 12
abbrev N_often : List Str := ["one", "two", "many", "left"]
theorem sc_often : FnScope N_often ["one", "two"] (defScope s_often) := ⟨rfl, rfl, rfl, by decide +kernel, rfl, by decide +kernel, by decide +kernel⟩
def T_often (g_divided : GD) : PTS :=
 (pSeq (pSetV 2 (fC (.int 0)))
 (pSeq (pSetV 3 (fDef g_divided (fCons (fVarV 0) (fCons (fVarV 1) fNil))))
 (pSeq (pWhile (fB (fBin (oIsN true) (fVarV 3) (fC .none)))
 (pSeq (pSetV 2 (fBin oAdd (fVarV 2) (fC (.int 1))))
 (pSetV 3 (fDef g_divided (fCons (fVarV 3) (fCons (fVarV 1) fNil))))))
 (pRetN 2))))
theorem j_often {g_divided : GD} (C_divided : Callee P w K mg base 41 "divided" ["one", "two"] g_divided) (B : Bi mg) (Z : Bz P base) {f : Addr} {cdv : Value} {A : Around} {outer : List Env} {s : Shared} {H : Hp} {E : XK} (hr : Room 41 (A.deeper (envOfC "often" (defScope s_often) s.heap.objs.size f cdv))) : ∃ t, JSs (cxOf CX0 P w K mg base N_often "often" (defScope s_often) f cdv A outer s H E).nox K (defBody s_often) t (T_often g_divided) :=
 ⟨_, (jss_cons (js_setV 2 sc_often.nd jv_int)
 (jss_cons (js_setV 3 sc_often.nd (jv_d C_divided (hr.mono (by decide)) (by rfl) (ja_cons (jv_v 0) (ja_cons (jv_v 1) ja_nil))))
 (jss_cons (js_while (jt_notN (jv_v 3) jv_non) (jss_cons (js_setV 2 sc_often.nd (jv_add (jv_v 2) jv_int))
 (jss_one (js_setV 3 sc_often.nd (jv_d C_divided (hr.mono (by decide)) (by rfl) (ja_cons (jv_v 3) (ja_cons (jv_v 1) ja_nil)))))))
 (jss_one (js_retN (jr_v 2))))))⟩
theorem c_often {g_divided : GD} (C_divided : Callee P w K mg base 41 "divided" ["one", "two"] g_divided) (B : Bi mg) (Z : Bz P base) {f : Addr} {fd : FuncData} (F : Fun K "often" "often" s_often f fd) (hm : mg "often" = some (.ref f)) {gd : GD} (hlen : ∀ ds r, gd ds = some r → ds.length = 2)
  (hT : ∀ ds d b, gd ds = some (d, b) → T_often g_divided (endsOf d b) (startE 4 ds)) : Callee P w K mg base 42 "often" ["one", "two"] gd :=
  ⟨f, fd, fn_ok2 F sc_often hlen (fun cdv A outer s H E hr => j_often C_divided B Z hr) hT, hm, F.kp, F.binds fun _ _ _ _ _ _ us hl => match us, hl with | [_, _], _ => rfl⟩
/-! ### squarefree -/
abbrev s_squarefree : Stmt := topS 13
abbrev N_squarefree : List Str := ["one", "own", "k"]
theorem sc_squarefree : FnScope N_squarefree ["one"] (defScope s_squarefree) := ⟨rfl, rfl, rfl, by decide +kernel, rfl, by decide +kernel, by decide +kernel⟩
def cs_squarefree_75_33 : Scope := { kind := .function, names := [(".0", .local), ("k", .local), ("own", .free)], isGenerator := false, isCoroutine := false, more := [] }
def T_squarefree (g_primitive : GD) (g_divided : GD) (g_gcd : GD) : PTS :=
 (pSeq (pSetV 1 (fDef g_primitive (fCons (fVarV 0) fNil)))
 (pRetF (fDefF g_divided (fCons (fVarV 1) (fCons (fDef g_gcd (fCons (fVarV 1) (fCons (fL (fComp [2] (iR2 (fCons (fC (.int 1)) (fCons (fUn oLen (fVar 1)) fNil))) (bN 2) fYes (fBin oMul (fVarV 2) (fIx (fVar 1) (fVarV 2))))) fNil))) fNil)))))
theorem j_squarefree {g_primitive : GD} (C_primitive : Callee P w K mg base 42 "primitive" ["one"] g_primitive) {g_divided : GD} (C_divided : Callee P w K mg base 41 "divided" ["one", "two"] g_divided) {g_gcd : GD} (C_gcd : Callee P w K mg base 44 "gcd" ["one", "two"] g_gcd) (B : Bi mg) (Z : Bz P base) {f : Addr} {cdv : Value} {A : Around} {outer : List Env} {s : Shared} {H : Hp} {E : XK} (hr : Room 44 (A.deeper (envOfC "squarefree" (defScope s_squarefree) s.heap.objs.size f cdv))) : ∃ t, JSs (cxOf CX0 P w K mg base N_squarefree "squarefree" (defScope s_squarefree) f cdv A outer s H E).nox K (defBody s_squarefree) t (T_squarefree g_primitive g_divided g_gcd) :=
 ⟨_, (jss_cons (js_setV 1 sc_squarefree.nd (jv_d C_primitive (hr.mono (by decide)) (by rfl) (ja_cons (jv_v 0) ja_nil)))
 (jss_one (js_retF (jf_d C_divided (hr.mono (by decide)) (by rfl) (ja_cons (jv_v 1) (ja_cons (jv_d C_gcd (hr.mono (by decide)) (by rfl) (ja_cons (jv_v 1) (ja_cons (jf_lc (own := [("k", 2)]) rfl sc_squarefree.nd (ji_r2 (by rfl) B.range (ja_cons jv_int (ja_cons (jv_len (by rfl) B.len (jr_v 1)) ja_nil))) (blkOk_by (N := N_squarefree) (sc := defScope s_squarefree) (by decide +kernel)) (fun _ _ _ _ _ => (jg_n 2 sc_squarefree.nd)) (fun _ _ _ _ _ => jts_nil) (fun _ _ _ _ _ => (jv_mul (jv_v 2) (jv_ix (jr_v 1) (jv_v 2))))).v ja_nil))) ja_nil))))))⟩
theorem c_squarefree {g_primitive : GD} (C_primitive : Callee P w K mg base 42 "primitive" ["one"] g_primitive) {g_divided : GD} (C_divided : Callee P w K mg base 41 "divided" ["one", "two"] g_divided) {g_gcd : GD} (C_gcd : Callee P w K mg base 44 "gcd" ["one", "two"] g_gcd) (B : Bi mg) (Z : Bz P base) {f : Addr} {fd : FuncData} (F : Fun K "squarefree" "squarefree" s_squarefree f fd) (hm : mg "squarefree" = some (.ref f)) {gd : GD} (hlen : ∀ ds r, gd ds = some r → ds.length = 1)
  (hT : ∀ ds d b, gd ds = some (d, b) → T_squarefree g_primitive g_divided g_gcd (endsOf d b) (startE 3 ds)) : Callee P w K mg base 45 "squarefree" ["one"] gd :=
  ⟨f, fd, fn_ok2 F sc_squarefree hlen (fun cdv A outer s H E hr => j_squarefree C_primitive C_divided C_gcd B Z hr) hT, hm, F.kp, F.binds fun _ _ _ _ _ _ us hl => match us, hl with | [_], _ => rfl⟩
/-! ### _law_draws -/
abbrev s_x_law_draws : Stmt := topS 15
abbrev N_x_law_draws : List Str := ["script", "draws", "k", "rest", "turn", "mixed"]
theorem sc_x_law_draws : FnScope N_x_law_draws ["script"] (defScope s_x_law_draws) := ⟨rfl, rfl, rfl, by decide +kernel, rfl, by decide +kernel, by decide +kernel⟩
def T_x_law_draws : PTS :=
 (pSeq (pSetF 1 (fLst fNil))
 (pSeq (pFor (iR1 (fCons (fCall oMin2 (fCons (fC (.int 63)) (fCons (fUn oLen (fVar 0)) fNil))) fNil)) (bN 2)
 (pSeq (pSetV 3 (fCall oAbs (fCons (fIx (fVar 0) (fVarV 2)) fNil)))
 (pIf (fB (fBin oGe (fVarV 3) (fBin oPow (fC (.int 10)) (fC (.int 18)))))
 (pFor (iR1 (fCons (fC (.int 60)) fNil)) (bN 4)
 (pIf (fB (fBin oGt (fVarV 3) (fC (.int 0))))
 (pSeq (pApp 1 (fBin oMod (fCall oInt (fCons (fVarV 3) fNil)) (fC (.int 65536))))
 (pSetV 3 (fBin oDivZ (fVarV 3) (fC (.int 65536)))))
 pNext))
 (pSeq (pSetV 5 (fBin oMod (fCall oInt (fCons (fBin oAdd (fBin oMul (fVarV 3) (fC (.int 48271))) (fBin oMul (fBin oAdd (fVarV 2) (fC (.int 1))) (fC (.int 69621)))) fNil)) (fC (.int 2147483647))))
 (pSeq (pSetV 5 (fBin oMod (fCall oInt (fCons (fBin oAdd (fBin oAdd (fBin oMul (fVarV 5) (fC (.int 16807))) (fBin oMul (fC (.int 11)) (fVarV 2))) (fC (.int 5))) fNil)) (fC (.int 2147483629))))
 (pSeq (pApp 1 (fBin oMod (fCall oInt (fCons (fVarV 5) fNil)) (fC (.int 65536))))
 (pApp 1 (fBin oMod (fCall oInt (fCons (fBin oDivZ (fVarV 5) (fC (.int 65536))) fNil)) (fC (.int 32768))))))))))
 (pRetN 1)))
theorem j_x_law_draws (B : Bi mg) (Z : Bz P base) {f : Addr} {cdv : Value} {A : Around} {outer : List Env} {s : Shared} {H : Hp} {E : XK} (hr : Room 40 (A.deeper (envOfC "_law_draws" (defScope s_x_law_draws) s.heap.objs.size f cdv))) : ∃ t, JSs (cxOf CX0 P w K mg base N_x_law_draws "_law_draws" (defScope s_x_law_draws) f cdv A outer s H E).nox K (defBody s_x_law_draws) t (T_x_law_draws) :=
 ⟨_, (jss_cons (js_setF 1 sc_x_law_draws.nd (jf_lst ja_nil))
 (jss_cons (js_for rfl (ji_r1 (by rfl) B.range (ja_cons (jv_min2 rfl (by rfl) B.min (ja_cons jv_int (ja_cons (jv_len (by rfl) B.len (jr_v 0)) ja_nil))) ja_nil)) (jg_n 2 sc_x_law_draws.nd) (jss_cons (js_setV 3 sc_x_law_draws.nd (jv_abs (by rfl) B.abs (ja_cons (jv_ix (jr_v 0) (jv_v 2)) ja_nil)))
 (jss_one (js_if (jt_ge (jv_v 3) (jv_pow jv_int jv_int)) (jss_one (js_for rfl (ji_r1 (by rfl) B.range (ja_cons jv_int ja_nil)) (jg_n 4 sc_x_law_draws.nd) (jss_one (js_if (jt_gt (jv_v 3) jv_int) (jss_cons (js_ap 1 (jr_v 1) (jv_mod (jv_intc (by rfl) B.int (ja_cons (jv_v 3) ja_nil)) jv_int))
 (jss_one (js_setV 3 sc_x_law_draws.nd (jv_divZ Z hr (jv_v 3) jv_int)))) jss_nil)))) (jss_cons (js_setV 5 sc_x_law_draws.nd (jv_mod (jv_intc (by rfl) B.int (ja_cons (jv_add (jv_mul (jv_v 3) jv_int) (jv_mul (jv_add (jv_v 2) jv_int) jv_int)) ja_nil)) jv_int))
 (jss_cons (js_setV 5 sc_x_law_draws.nd (jv_mod (jv_intc (by rfl) B.int (ja_cons (jv_add (jv_add (jv_mul (jv_v 5) jv_int) (jv_mul jv_int (jv_v 2))) jv_int) ja_nil)) jv_int))
 (jss_cons (js_ap 1 (jr_v 1) (jv_mod (jv_intc (by rfl) B.int (ja_cons (jv_v 5) ja_nil)) jv_int))
 (jss_one (js_ap 1 (jr_v 1) (jv_mod (jv_intc (by rfl) B.int (ja_cons (jv_divZ Z hr (jv_v 5) jv_int) ja_nil)) jv_int))))))))))
 (jss_one (js_retN (jr_v 1)))))⟩
theorem c_x_law_draws (B : Bi mg) (Z : Bz P base) {f : Addr} {fd : FuncData} (F : Fun K "_law_draws" "_law_draws" s_x_law_draws f fd) (hm : mg "_law_draws" = some (.ref f)) {gd : GD} (hlen : ∀ ds r, gd ds = some r → ds.length = 1)
  (hT : ∀ ds d b, gd ds = some (d, b) → T_x_law_draws (endsOf d b) (startE 6 ds)) : Callee P w K mg base 41 "_law_draws" ["script"] gd :=
  ⟨f, fd, fn_ok2 F sc_x_law_draws hlen (fun cdv A outer s H E hr => j_x_law_draws B Z hr) hT, hm, F.kp, F.binds fun _ _ _ _ _ _ us hl => match us, hl with | [_], _ => rfl⟩
/-! ### _law_mix -/
abbrev s_x_law_mix : Stmt := topS 16
abbrev N_x_law_mix : List Str := ["draws", "k", "many", "value"]
theorem sc_x_law_mix : FnScope N_x_law_mix ["draws", "k", "many"] (defScope s_x_law_mix) := ⟨rfl, rfl, rfl, by decide +kernel, rfl, by decide +kernel, by decide +kernel⟩
def T_x_law_mix : PTS :=
 (pSeq (pSetV 3 (fC (.int 0)))
 (pSeq (pIf (fB (fBin oGt (fUn oLen (fVar 0)) (fC (.int 0))))
 (pSetV 3 (fIx (fVar 0) (fBin oMod (fCall oInt (fCons (fVarV 1) fNil)) (fUn oLen (fVar 0)))))
 pNext)
 (pSeq (pIf (fB (fBin oLt (fVarV 1) (fUn oLen (fVar 0))))
 (pRetV (fBin oMod (fCall oInt (fCons (fVarV 3) fNil)) (fVarV 2)))
 pNext)
 (pRetV (fBin oMod (fCall oInt (fCons (fBin oDivZ (fCall oInt (fCons (fBin oAdd (fBin oMul (fVarV 3) (fC (.int 7919))) (fBin oMul (fVarV 1) (fC (.int 104729)))) fNil)) (fC (.int 3))) fNil)) (fVarV 2))))))
theorem j_x_law_mix (B : Bi mg) (Z : Bz P base) {f : Addr} {cdv : Value} {A : Around} {outer : List Env} {s : Shared} {H : Hp} {E : XK} (hr : Room 40 (A.deeper (envOfC "_law_mix" (defScope s_x_law_mix) s.heap.objs.size f cdv))) : ∃ t, JSs (cxOf CX0 P w K mg base N_x_law_mix "_law_mix" (defScope s_x_law_mix) f cdv A outer s H E).nox K (defBody s_x_law_mix) t (T_x_law_mix) :=
 ⟨_, (jss_cons (js_setV 3 sc_x_law_mix.nd jv_int)
 (jss_cons (js_if (jt_gt (jv_len (by rfl) B.len (jr_v 0)) jv_int) (jss_one (js_setV 3 sc_x_law_mix.nd (jv_ix (jr_v 0) (jv_mod (jv_intc (by rfl) B.int (ja_cons (jv_v 1) ja_nil)) (jv_len (by rfl) B.len (jr_v 0)))))) jss_nil)
 (jss_cons (js_if (jt_lt (jv_v 1) (jv_len (by rfl) B.len (jr_v 0))) (jss_one (js_retV (jv_mod (jv_intc (by rfl) B.int (ja_cons (jv_v 3) ja_nil)) (jv_v 2)))) jss_nil)
 (jss_one (js_retV (jv_mod (jv_intc (by rfl) B.int (ja_cons (jv_divZ Z hr (jv_intc (by rfl) B.int (ja_cons (jv_add (jv_mul (jv_v 3) jv_int) (jv_mul (jv_v 1) jv_int)) ja_nil)) jv_int) ja_nil)) (jv_v 2)))))))⟩
theorem c_x_law_mix (B : Bi mg) (Z : Bz P base) {f : Addr} {fd : FuncData} (F : Fun K "_law_mix" "_law_mix" s_x_law_mix f fd) (hm : mg "_law_mix" = some (.ref f)) {gd : GD} (hlen : ∀ ds r, gd ds = some r → ds.length = 3)
  (hT : ∀ ds d b, gd ds = some (d, b) → T_x_law_mix (endsOf d b) (startE 4 ds)) : Callee P w K mg base 41 "_law_mix" ["draws", "k", "many"] gd :=
  ⟨f, fd, fn_ok2 F sc_x_law_mix hlen (fun cdv A outer s H E hr => j_x_law_mix B Z hr) hT, hm, F.kp, F.binds fun _ _ _ _ _ _ us hl => match us, hl with | [_, _, _], _ => rfl⟩
/-! ### _law_trimmed -/
abbrev s_x_law_trimmed : Stmt := topS 17
abbrev N_x_law_trimmed : List Str := ["numbers", "size", "turn"]
theorem sc_x_law_trimmed : FnScope N_x_law_trimmed ["numbers"] (defScope s_x_law_trimmed) := ⟨rfl, rfl, rfl, by decide +kernel, rfl, by decide +kernel, by decide +kernel⟩
def T_x_law_trimmed : PTS :=
 (pSeq (pSetV 1 (fUn oLen (fVar 0)))
 (pSeq (pFor (iR1 (fCons (fUn oLen (fVar 0)) fNil)) (bN 2)
 (pIf (fAnd (fB (fBin oGt (fVarV 1) (fC (.int 0)))) (fB (fBin oEq (fIx (fVar 0) (fBin oSub (fVarV 1) (fC (.int 1)))) (fC (.int 0)))))
 (pSetV 1 (fBin oSub (fVarV 1) (fC (.int 1))))
 pNext))
 (pRetF (fSl (fVar 0) fO0 (fO1 (fVarV 1))))))
theorem j_x_law_trimmed (B : Bi mg) (Z : Bz P base) {f : Addr} {cdv : Value} {A : Around} {outer : List Env} {s : Shared} {H : Hp} {E : XK} (hr : Room 40 (A.deeper (envOfC "_law_trimmed" (defScope s_x_law_trimmed) s.heap.objs.size f cdv))) : ∃ t, JSs (cxOf CX0 P w K mg base N_x_law_trimmed "_law_trimmed" (defScope s_x_law_trimmed) f cdv A outer s H E).nox K (defBody s_x_law_trimmed) t (T_x_law_trimmed) :=
 ⟨_, (jss_cons (js_setV 1 sc_x_law_trimmed.nd (jv_len (by rfl) B.len (jr_v 0)))
 (jss_cons (js_for rfl (ji_r1 (by rfl) B.range (ja_cons (jv_len (by rfl) B.len (jr_v 0)) ja_nil)) (jg_n 2 sc_x_law_trimmed.nd) (jss_one (js_if (jw_and (jt_gt (jv_v 1) jv_int) (jw_and1 (jt_eq hr (jv_ix (jr_v 0) (jv_sub (jv_v 1) jv_int)) jv_int))).t (jss_one (js_setV 1 sc_x_law_trimmed.nd (jv_sub (jv_v 1) jv_int))) jss_nil)))
 (jss_one (js_retF (jf_sl (jr_v 0) jo_no (jo_some (jv_v 1)))))))⟩
theorem c_x_law_trimmed (B : Bi mg) (Z : Bz P base) {f : Addr} {fd : FuncData} (F : Fun K "_law_trimmed" "_law_trimmed" s_x_law_trimmed f fd) (hm : mg "_law_trimmed" = some (.ref f)) {gd : GD} (hlen : ∀ ds r, gd ds = some r → ds.length = 1)
  (hT : ∀ ds d b, gd ds = some (d, b) → T_x_law_trimmed (endsOf d b) (startE 3 ds)) : Callee P w K mg base 41 "_law_trimmed" ["numbers"] gd :=
  ⟨f, fd, fn_ok2 F sc_x_law_trimmed hlen (fun cdv A outer s H E hr => j_x_law_trimmed B Z hr) hT, hm, F.kp, F.binds fun _ _ _ _ _ _ us hl => match us, hl with | [_], _ => rfl⟩
/-! ### _law_times -/
abbrev s_x_law_times : Stmt := topS 18
abbrev N_x_law_times : List Str := ["one", "two", "out", "i", "j"]
theorem sc_x_law_times : FnScope N_x_law_times ["one", "two"] (defScope s_x_law_times) := ⟨rfl, rfl, rfl, by decide +kernel, rfl, by decide +kernel, by decide +kernel⟩
def T_x_law_times (g_x_law_trimmed : GD) : PTS :=
 (pSeq (pSetF 2 (fRep (fL (fLst (fCons (fC (.int 0)) fNil))) (fBin oAdd (fUn oLen (fVar 0)) (fUn oLen (fVar 1)))))
 (pSeq (pFor (iR1 (fCons (fUn oLen (fVar 0)) fNil)) (bN 3)
 (pFor (iR1 (fCons (fUn oLen (fVar 1)) fNil)) (bN 4)
 (pItem 2 (fBin oAdd (fVarV 3) (fVarV 4)) (fBin oAdd (fIx (fVar 2) (fBin oAdd (fVarV 3) (fVarV 4))) (fBin oMul (fIx (fVar 0) (fVarV 3)) (fIx (fVar 1) (fVarV 4)))))))
 (pDrop [2] (pRetF (fDefF g_x_law_trimmed (fCons (fVarV 2) fNil))))))
theorem j_x_law_times {g_x_law_trimmed : GD} (C_x_law_trimmed : Callee P w K mg base 41 "_law_trimmed" ["numbers"] g_x_law_trimmed) (B : Bi mg) (Z : Bz P base) {f : Addr} {cdv : Value} {A : Around} {outer : List Env} {s : Shared} {H : Hp} {E : XK} (hr : Room 41 (A.deeper (envOfC "_law_times" (defScope s_x_law_times) s.heap.objs.size f cdv))) : ∃ t, JSs (cxOf CX0 P w K mg base N_x_law_times "_law_times" (defScope s_x_law_times) f cdv A outer s H E).nox K (defBody s_x_law_times) t (T_x_law_times g_x_law_trimmed) :=
 ⟨_, (jss_cons (js_setF 2 sc_x_law_times.nd (jf_rep (jf_lst (ja_cons jv_int ja_nil)).v (jv_add (jv_len (by rfl) B.len (jr_v 0)) (jv_len (by rfl) B.len (jr_v 1)))))
 (jss_cons (js_for rfl (ji_r1 (by rfl) B.range (ja_cons (jv_len (by rfl) B.len (jr_v 0)) ja_nil)) (jg_n 3 sc_x_law_times.nd) (jss_one (js_for rfl (ji_r1 (by rfl) B.range (ja_cons (jv_len (by rfl) B.len (jr_v 1)) ja_nil)) (jg_n 4 sc_x_law_times.nd) (jss_one (js_item 2 (jr_v 2) (jv_add (jv_v 3) (jv_v 4)) (jv_add (jv_ix (jr_v 2) (jv_add (jv_v 3) (jv_v 4))) (jv_mul (jv_ix (jr_v 0) (jv_v 3)) (jv_ix (jr_v 1) (jv_v 4)))))))))
 (jss_one (js_drop [2] (js_retF (jf_d C_x_law_trimmed (hr.mono (by decide)) (by rfl) (ja_cons (jv_v 2) ja_nil)))))))⟩
theorem c_x_law_times {g_x_law_trimmed : GD} (C_x_law_trimmed : Callee P w K mg base 41 "_law_trimmed" ["numbers"] g_x_law_trimmed) (B : Bi mg) (Z : Bz P base) {f : Addr} {fd : FuncData} (F : Fun K "_law_times" "_law_times" s_x_law_times f fd) (hm : mg "_law_times" = some (.ref f)) {gd : GD} (hlen : ∀ ds r, gd ds = some r → ds.length = 2)
  (hT : ∀ ds d b, gd ds = some (d, b) → T_x_law_times g_x_law_trimmed (endsOf d b) (startE 5 ds)) : Callee P w K mg base 42 "_law_times" ["one", "two"] gd :=
  ⟨f, fd, fn_ok2 F sc_x_law_times hlen (fun cdv A outer s H E hr => j_x_law_times C_x_law_trimmed B Z hr) hT, hm, F.kp, F.binds fun _ _ _ _ _ _ us hl => match us, hl with | [_, _], _ => rfl⟩
/-! ### _law_divisor -/
abbrev s_x_law_divisor : Stmt := topS 19
abbrev N_x_law_divisor : List Str := ["row", "found", "number", "other", "turn", "rest"]
theorem sc_x_law_divisor : FnScope N_x_law_divisor ["row"] (defScope s_x_law_divisor) := ⟨rfl, rfl, rfl, by decide +kernel, rfl, by decide +kernel, by decide +kernel⟩
def T_x_law_divisor : PTS :=
 (pSeq (pSetV 1 (fC (.int 0)))
 (pSeq (pFor (iL (fVarV 0)) (bN 2)
 (pSeq (pSetV 3 (fCall oAbs (fCons (fVarV 2) fNil)))
 (pFor (iR1 (fCons (fBin oAdd (fBin oAdd (fC (.int 4)) (fBin oMul (fC (.int 2)) (fUn oBits (fVarV 1)))) (fBin oMul (fC (.int 2)) (fUn oBits (fVarV 3)))) fNil)) (bN 4)
 (pIf (fB (fBin oGt (fVarV 3) (fC (.int 0))))
 (pSeq (pSetV 5 (fBin oMod (fCall oInt (fCons (fVarV 1) fNil)) (fVarV 3)))
 (pSeq (pSetV 1 (fVarV 3))
 (pSetV 3 (fVarV 5))))
 pNext))))
 (pRetN 1)))
theorem j_x_law_divisor (B : Bi mg) (Z : Bz P base) {f : Addr} {cdv : Value} {A : Around} {outer : List Env} {s : Shared} {H : Hp} {E : XK} (hr : Room 40 (A.deeper (envOfC "_law_divisor" (defScope s_x_law_divisor) s.heap.objs.size f cdv))) : ∃ t, JSs (cxOf CX0 P w K mg base N_x_law_divisor "_law_divisor" (defScope s_x_law_divisor) f cdv A outer s H E).nox K (defBody s_x_law_divisor) t (T_x_law_divisor) :=
 ⟨_, (jss_cons (js_setV 1 sc_x_law_divisor.nd jv_int)
 (jss_cons (js_for rfl (ji_l (jv_v 0)) (jg_n 2 sc_x_law_divisor.nd) (jss_cons (js_setV 3 sc_x_law_divisor.nd (jv_abs (by rfl) B.abs (ja_cons (jv_v 2) ja_nil)))
 (jss_one (js_for rfl (ji_r1 (by rfl) B.range (ja_cons (jv_add (jv_add jv_int (jv_mul jv_int (jv_bits (jv_v 1)))) (jv_mul jv_int (jv_bits (jv_v 3)))) ja_nil)) (jg_n 4 sc_x_law_divisor.nd) (jss_one (js_if (jt_gt (jv_v 3) jv_int) (jss_cons (js_setV 5 sc_x_law_divisor.nd (jv_mod (jv_intc (by rfl) B.int (ja_cons (jv_v 1) ja_nil)) (jv_v 3)))
 (jss_cons (js_setV 1 sc_x_law_divisor.nd (jv_v 3))
 (jss_one (js_setV 3 sc_x_law_divisor.nd (jv_v 5))))) jss_nil))))))
 (jss_one (js_retN (jr_v 1)))))⟩
theorem c_x_law_divisor (B : Bi mg) (Z : Bz P base) {f : Addr} {fd : FuncData} (F : Fun K "_law_divisor" "_law_divisor" s_x_law_divisor f fd) (hm : mg "_law_divisor" = some (.ref f)) {gd : GD} (hlen : ∀ ds r, gd ds = some r → ds.length = 1)
  (hT : ∀ ds d b, gd ds = some (d, b) → T_x_law_divisor (endsOf d b) (startE 6 ds)) : Callee P w K mg base 41 "_law_divisor" ["row"] gd :=
  ⟨f, fd, fn_ok2 F sc_x_law_divisor hlen (fun cdv A outer s H E hr => j_x_law_divisor B Z hr) hT, hm, F.kp, F.binds fun _ _ _ _ _ _ us hl => match us, hl with | [_], _ => rfl⟩
/-! ### _law_lowest -/
abbrev s_x_law_lowest : Stmt := topS 20
abbrev N_x_law_lowest : List Str := ["one", "divisor", "number"]
theorem sc_x_law_lowest : FnScope N_x_law_lowest ["one"] (defScope s_x_law_lowest) := ⟨rfl, rfl, rfl, by decide +kernel, rfl, by decide +kernel, by decide +kernel⟩
def cs_x_law_lowest_127_11 : Scope := { kind := .function, names := [(".0", .local), ("number", .local), ("divisor", .free)], isGenerator := false, isCoroutine := false, more := [] }
def T_x_law_lowest (g_x_law_divisor : GD) : PTS :=
 (pSeq (pIf (fB (fBin oEq (fVarV 0) (fL (fLst fNil))))
 (pRetF (fLst fNil))
 pNext)
 (pSeq (pSetV 1 (fDef g_x_law_divisor (fCons (fVarV 0) fNil)))
 (pSeq (pIf (fB (fBin oLt (fIx (fVar 0) (fUn oNeg (fC (.int 1)))) (fC (.int 0))))
 (pSetV 1 (fUn oNeg (fVarV 1)))
 pNext)
 (pRetF (fComp [2] (iL (fVarV 0)) (bN 2) fYes (fBin oDivZ (fVarV 2) (fVarV 1)))))))
theorem j_x_law_lowest {g_x_law_divisor : GD} (C_x_law_divisor : Callee P w K mg base 41 "_law_divisor" ["row"] g_x_law_divisor) (B : Bi mg) (Z : Bz P base) {f : Addr} {cdv : Value} {A : Around} {outer : List Env} {s : Shared} {H : Hp} {E : XK} (hr : Room 41 (A.deeper (envOfC "_law_lowest" (defScope s_x_law_lowest) s.heap.objs.size f cdv))) : ∃ t, JSs (cxOf CX0 P w K mg base N_x_law_lowest "_law_lowest" (defScope s_x_law_lowest) f cdv A outer s H E).nox K (defBody s_x_law_lowest) t (T_x_law_lowest g_x_law_divisor) :=
 ⟨_, (jss_cons (js_if (jt_eq hr (jv_v 0) (jf_lst ja_nil).v) (jss_one (js_retF (jf_lst ja_nil))) jss_nil)
 (jss_cons (js_setV 1 sc_x_law_lowest.nd (jv_d C_x_law_divisor (hr.mono (by decide)) (by rfl) (ja_cons (jv_v 0) ja_nil)))
 (jss_cons (js_if (jt_lt (jv_ix (jr_v 0) (jv_neg jv_int)) jv_int) (jss_one (js_setV 1 sc_x_law_lowest.nd (jv_neg (jv_v 1)))) jss_nil)
 (jss_one (js_retF (jf_lc (own := [("number", 2)]) rfl sc_x_law_lowest.nd (ji_l (jv_v 0)) (blkOk_by (N := N_x_law_lowest) (sc := defScope s_x_law_lowest) (by decide +kernel)) (fun _ _ _ _ _ => (jg_n 2 sc_x_law_lowest.nd)) (fun _ _ _ _ _ => jts_nil) (fun _ _ _ _ _ => (jv_divZ Z hr (jv_v 2) (jv_v 1)))))))))⟩
theorem c_x_law_lowest {g_x_law_divisor : GD} (C_x_law_divisor : Callee P w K mg base 41 "_law_divisor" ["row"] g_x_law_divisor) (B : Bi mg) (Z : Bz P base) {f : Addr} {fd : FuncData} (F : Fun K "_law_lowest" "_law_lowest" s_x_law_lowest f fd) (hm : mg "_law_lowest" = some (.ref f)) {gd : GD} (hlen : ∀ ds r, gd ds = some r → ds.length = 1)
  (hT : ∀ ds d b, gd ds = some (d, b) → T_x_law_lowest g_x_law_divisor (endsOf d b) (startE 3 ds)) : Callee P w K mg base 42 "_law_lowest" ["one"] gd :=
  ⟨f, fd, fn_ok2 F sc_x_law_lowest hlen (fun cdv A outer s H E hr => j_x_law_lowest C_x_law_divisor B Z hr) hT, hm, F.kp, F.binds fun _ _ _ _ _ _ us hl => match us, hl with | [_], _ => rfl⟩
/-! ### _law_common -/
abbrev s_x_law_common : Stmt := topS 21
abbrev N_x_law_common : List Str := ["one", "two", "turn", "rest", "step", "gap", "lead", "k", "number"]
theorem sc_x_law_common : FnScope N_x_law_common ["one", "two"] (defScope s_x_law_common) := ⟨rfl, rfl, rfl, by decide +kernel, rfl, by decide +kernel, by decide +kernel⟩
def cs_x_law_common_139_23 : Scope := { kind := .function, names := [(".0", .local), ("number", .local), ("two", .free)], isGenerator := false, isCoroutine := false, more := [] }
def T_x_law_common (g_x_law_lowest : GD) (g_x_law_trimmed : GD) : PTS :=
 (pSeq (pSetV 0 (fDef g_x_law_lowest (fCons (fVarV 0) fNil)))
 (pSeq (pSetV 1 (fDef g_x_law_lowest (fCons (fVarV 1) fNil)))
 (pSeq (pFor (iR1 (fCons (fBin oAdd (fBin oAdd (fUn oLen (fVar 0)) (fUn oLen (fVar 1))) (fC (.int 2))) fNil)) (bN 2)
 (pSeq (pIf (fB (fBin oEq (fVarV 1) (fL (fLst fNil))))
 (pRetN 0)
 pNext)
 (pSeq (pSetF 3 (fList (fVar 0)))
 (pSeq (pFor (iR1 (fCons (fBin oAdd (fUn oLen (fVar 0)) (fC (.int 1))) fNil)) (bN 4)
 (pIf (fB (fBin oGe (fUn oLen (fVar 3)) (fUn oLen (fVar 1))))
 (pSeq (pSetV 5 (fBin oSub (fUn oLen (fVar 3)) (fUn oLen (fVar 1))))
 (pSeq (pSetV 6 (fIx (fVar 3) (fUn oNeg (fC (.int 1)))))
 (pSeq (pDrop [3] (pSetF 3 (fComp [8] (iL (fVarV 3)) (bN 8) fYes (fBin oMul (fIx (fVar 1) (fUn oNeg (fC (.int 1)))) (fVarV 8)))))
 (pSeq (pFor (iR1 (fCons (fUn oLen (fVar 1)) fNil)) (bN 7)
 (pItem 3 (fBin oAdd (fVarV 5) (fVarV 7)) (fBin oSub (fIx (fVar 3) (fBin oAdd (fVarV 5) (fVarV 7))) (fBin oMul (fVarV 6) (fIx (fVar 1) (fVarV 7))))))
 (pDrop [3] (pSetF 3 (fDefF g_x_law_trimmed (fCons (fVarV 3) fNil))))))))
 pNext))
 (pSeq (pSetV 0 (fVarV 1))
 (pDrop [3] (pSetV 1 (fDef g_x_law_lowest (fCons (fVarV 3) fNil)))))))))
 (pRetN 0))))
theorem j_x_law_common {g_x_law_lowest : GD} (C_x_law_lowest : Callee P w K mg base 42 "_law_lowest" ["one"] g_x_law_lowest) {g_x_law_trimmed : GD} (C_x_law_trimmed : Callee P w K mg base 41 "_law_trimmed" ["numbers"] g_x_law_trimmed) (B : Bi mg) (Z : Bz P base) {f : Addr} {cdv : Value} {A : Around} {outer : List Env} {s : Shared} {H : Hp} {E : XK} (hr : Room 42 (A.deeper (envOfC "_law_common" (defScope s_x_law_common) s.heap.objs.size f cdv))) : ∃ t, JSs (cxOf CX0 P w K mg base N_x_law_common "_law_common" (defScope s_x_law_common) f cdv A outer s H E).nox K (defBody s_x_law_common) t (T_x_law_common g_x_law_lowest g_x_law_trimmed) :=
 ⟨_, (jss_cons (js_setV 0 sc_x_law_common.nd (jv_d C_x_law_lowest (hr.mono (by decide)) (by rfl) (ja_cons (jv_v 0) ja_nil)))
 (jss_cons (js_setV 1 sc_x_law_common.nd (jv_d C_x_law_lowest (hr.mono (by decide)) (by rfl) (ja_cons (jv_v 1) ja_nil)))
 (jss_cons (js_for rfl (ji_r1 (by rfl) B.range (ja_cons (jv_add (jv_add (jv_len (by rfl) B.len (jr_v 0)) (jv_len (by rfl) B.len (jr_v 1))) jv_int) ja_nil)) (jg_n 2 sc_x_law_common.nd) (jss_cons (js_if (jt_eq hr (jv_v 1) (jf_lst ja_nil).v) (jss_one (js_retN (jr_v 0))) jss_nil)
 (jss_cons (js_setF 3 sc_x_law_common.nd (jf_list (by rfl) B.list (jr_v 0)))
 (jss_cons (js_for rfl (ji_r1 (by rfl) B.range (ja_cons (jv_add (jv_len (by rfl) B.len (jr_v 0)) jv_int) ja_nil)) (jg_n 4 sc_x_law_common.nd) (jss_one (js_if (jt_ge (jv_len (by rfl) B.len (jr_v 3)) (jv_len (by rfl) B.len (jr_v 1))) (jss_cons (js_setV 5 sc_x_law_common.nd (jv_sub (jv_len (by rfl) B.len (jr_v 3)) (jv_len (by rfl) B.len (jr_v 1))))
 (jss_cons (js_setV 6 sc_x_law_common.nd (jv_ix (jr_v 3) (jv_neg jv_int)))
 (jss_cons (js_drop [3] (js_setLc (i := 3) (own := [("number", 8)]) rfl sc_x_law_common.nd rfl rfl (sw_true rfl rfl rfl (by decide +kernel)) (ji_l (jv_v 3)) (blkOk_by (N := N_x_law_common) (sc := defScope s_x_law_common) (by decide +kernel)) (fun _ _ _ _ _ => (jg_n 8 sc_x_law_common.nd)) (fun _ _ _ _ _ => jts_nil) (fun _ _ _ _ _ => (jv_mul (jv_ix (jr_v 1) (jv_neg jv_int)) (jv_v 8)))))
 (jss_cons (js_for rfl (ji_r1 (by rfl) B.range (ja_cons (jv_len (by rfl) B.len (jr_v 1)) ja_nil)) (jg_n 7 sc_x_law_common.nd) (jss_one (js_item 3 (jr_v 3) (jv_add (jv_v 5) (jv_v 7)) (jv_sub (jv_ix (jr_v 3) (jv_add (jv_v 5) (jv_v 7))) (jv_mul (jv_v 6) (jv_ix (jr_v 1) (jv_v 7)))))))
 (jss_one (js_drop [3] (js_setF 3 sc_x_law_common.nd (jf_d C_x_law_trimmed (hr.mono (by decide)) (by rfl) (ja_cons (jv_v 3) ja_nil))))))))) jss_nil)))
 (jss_cons (js_setV 0 sc_x_law_common.nd (jv_v 1))
 (jss_one (js_drop [3] (js_setV 1 sc_x_law_common.nd (jv_d C_x_law_lowest (hr.mono (by decide)) (by rfl) (ja_cons (jv_v 3) ja_nil))))))))))
 (jss_one (js_retN (jr_v 0))))))⟩
theorem c_x_law_common {g_x_law_lowest : GD} (C_x_law_lowest : Callee P w K mg base 42 "_law_lowest" ["one"] g_x_law_lowest) {g_x_law_trimmed : GD} (C_x_law_trimmed : Callee P w K mg base 41 "_law_trimmed" ["numbers"] g_x_law_trimmed) (B : Bi mg) (Z : Bz P base) {f : Addr} {fd : FuncData} (F : Fun K "_law_common" "_law_common" s_x_law_common f fd) (hm : mg "_law_common" = some (.ref f)) {gd : GD} (hlen : ∀ ds r, gd ds = some r → ds.length = 2)
  (hT : ∀ ds d b, gd ds = some (d, b) → T_x_law_common g_x_law_lowest g_x_law_trimmed (endsOf d b) (startE 9 ds)) : Callee P w K mg base 43 "_law_common" ["one", "two"] gd :=
  ⟨f, fd, fn_ok2 F sc_x_law_common hlen (fun cdv A outer s H E hr => j_x_law_common C_x_law_lowest C_x_law_trimmed B Z hr) hT, hm, F.kp, F.binds fun _ _ _ _ _ _ us hl => match us, hl with | [_, _], _ => rfl⟩
/-! ### _law_divided -/
abbrev s_x_law_divided : Stmt := topS 22
abbrev N_x_law_divided : List Str := ["one", "two", "rest", "out", "turn", "k", "lead", "at"]
theorem sc_x_law_divided : FnScope N_x_law_divided ["one", "two"] (defScope s_x_law_divided) := ⟨rfl, rfl, rfl, by decide +kernel, rfl, by decide +kernel, by decide +kernel⟩
def T_x_law_divided (g_x_law_trimmed : GD) : PTS :=
 (pSeq (pSetF 2 (fList (fVar 0)))
 (pSeq (pSetF 3 (fRep (fL (fLst (fCons (fC (.int 0)) fNil))) (fCall oMax2 (fCons (fC (.int 0)) (fCons (fBin oAdd (fBin oSub (fUn oLen (fVar 0)) (fUn oLen (fVar 1))) (fC (.int 1))) fNil)))))
 (pSeq (pFor (iR1 (fCons (fUn oLen (fVar 3)) fNil)) (bN 4)
 (pSeq (pSetV 5 (fBin oSub (fBin oSub (fUn oLen (fVar 3)) (fC (.int 1))) (fVarV 4)))
 (pSeq (pSetV 6 (fIx (fVar 2) (fBin oSub (fBin oAdd (fVarV 5) (fUn oLen (fVar 1))) (fC (.int 1)))))
 (pSeq (pIf (fB (fBin oNe (fBin oMod (fCall oInt (fCons (fVarV 6) fNil)) (fIx (fVar 1) (fUn oNeg (fC (.int 1))))) (fC (.int 0))))
 (pRetV (fC .none))
 pNext)
 (pSeq (pItem 3 (fVarV 5) (fBin oDivZ (fVarV 6) (fIx (fVar 1) (fUn oNeg (fC (.int 1))))))
 (pFor (iR1 (fCons (fUn oLen (fVar 1)) fNil)) (bN 7)
 (pItem 2 (fBin oAdd (fVarV 5) (fVarV 7)) (fBin oSub (fIx (fVar 2) (fBin oAdd (fVarV 5) (fVarV 7))) (fBin oMul (fIx (fVar 3) (fVarV 5)) (fIx (fVar 1) (fVarV 7)))))))))))
 (pSeq (pDrop [2] (pIf (fB (fBin oNe (fDef g_x_law_trimmed (fCons (fVarV 2) fNil)) (fL (fLst fNil))))
 (pRetV (fC .none))
 pNext))
 (pRetN 3)))))
theorem j_x_law_divided {g_x_law_trimmed : GD} (C_x_law_trimmed : Callee P w K mg base 41 "_law_trimmed" ["numbers"] g_x_law_trimmed) (B : Bi mg) (Z : Bz P base) {f : Addr} {cdv : Value} {A : Around} {outer : List Env} {s : Shared} {H : Hp} {E : XK} (hr : Room 41 (A.deeper (envOfC "_law_divided" (defScope s_x_law_divided) s.heap.objs.size f cdv))) : ∃ t, JSs (cxOf CX0 P w K mg base N_x_law_divided "_law_divided" (defScope s_x_law_divided) f cdv A outer s H E).nox K (defBody s_x_law_divided) t (T_x_law_divided g_x_law_trimmed) :=
 ⟨_, (jss_cons (js_setF 2 sc_x_law_divided.nd (jf_list (by rfl) B.list (jr_v 0)))
 (jss_cons (js_setF 3 sc_x_law_divided.nd (jf_rep (jf_lst (ja_cons jv_int ja_nil)).v (jv_max2 rfl (by rfl) B.max (ja_cons jv_int (ja_cons (jv_add (jv_sub (jv_len (by rfl) B.len (jr_v 0)) (jv_len (by rfl) B.len (jr_v 1))) jv_int) ja_nil)))))
 (jss_cons (js_for rfl (ji_r1 (by rfl) B.range (ja_cons (jv_len (by rfl) B.len (jr_v 3)) ja_nil)) (jg_n 4 sc_x_law_divided.nd) (jss_cons (js_setV 5 sc_x_law_divided.nd (jv_sub (jv_sub (jv_len (by rfl) B.len (jr_v 3)) jv_int) (jv_v 4)))
 (jss_cons (js_setV 6 sc_x_law_divided.nd (jv_ix (jr_v 2) (jv_sub (jv_add (jv_v 5) (jv_len (by rfl) B.len (jr_v 1))) jv_int)))
 (jss_cons (js_if (jt_ne hr (jv_mod (jv_intc (by rfl) B.int (ja_cons (jv_v 6) ja_nil)) (jv_ix (jr_v 1) (jv_neg jv_int))) jv_int) (jss_one (js_retV jv_non)) jss_nil)
 (jss_cons (js_item 3 (jr_v 3) (jv_v 5) (jv_divZ Z hr (jv_v 6) (jv_ix (jr_v 1) (jv_neg jv_int))))
 (jss_one (js_for rfl (ji_r1 (by rfl) B.range (ja_cons (jv_len (by rfl) B.len (jr_v 1)) ja_nil)) (jg_n 7 sc_x_law_divided.nd) (jss_one (js_item 2 (jr_v 2) (jv_add (jv_v 5) (jv_v 7)) (jv_sub (jv_ix (jr_v 2) (jv_add (jv_v 5) (jv_v 7))) (jv_mul (jv_ix (jr_v 3) (jv_v 5)) (jv_ix (jr_v 1) (jv_v 7)))))))))))))
 (jss_cons (js_drop [2] (js_if (jt_ne hr (jv_d C_x_law_trimmed (hr.mono (by decide)) (by rfl) (ja_cons (jv_v 2) ja_nil)) (jf_lst ja_nil).v) (jss_one (js_retV jv_non)) jss_nil))
 (jss_one (js_retN (jr_v 3)))))))⟩
theorem c_x_law_divided {g_x_law_trimmed : GD} (C_x_law_trimmed : Callee P w K mg base 41 "_law_trimmed" ["numbers"] g_x_law_trimmed) (B : Bi mg) (Z : Bz P base) {f : Addr} {fd : FuncData} (F : Fun K "_law_divided" "_law_divided" s_x_law_divided f fd) (hm : mg "_law_divided" = some (.ref f)) {gd : GD} (hlen : ∀ ds r, gd ds = some r → ds.length = 2)
  (hT : ∀ ds d b, gd ds = some (d, b) → T_x_law_divided g_x_law_trimmed (endsOf d b) (startE 8 ds)) : Callee P w K mg base 42 "_law_divided" ["one", "two"] gd :=
  ⟨f, fd, fn_ok2 F sc_x_law_divided hlen (fun cdv A outer s H E hr => j_x_law_divided C_x_law_trimmed B Z hr) hT, hm, F.kp, F.binds fun _ _ _ _ _ _ us hl => match us, hl with | [_, _], _ => rfl⟩
/-! ### _law_is_list -/
abbrev s_x_law_is_list : Stmt := topS 23
abbrev N_x_law_is_list : List Str := ["told", "n"]
theorem sc_x_law_is_list : FnScope N_x_law_is_list ["told"] (defScope s_x_law_is_list) := ⟨rfl, rfl, rfl, by decide +kernel, rfl, by decide +kernel, by decide +kernel⟩
def cs_x_law_is_list_161_38 : Scope := { kind := .function, names := [(".0", .local), ("n", .local), ("isinstance", .globalImplicit), ("int", .globalImplicit), ("bool", .globalImplicit)], isGenerator := false, isCoroutine := false, more := [] }
def T_x_law_is_list : PTS :=
 (pRetV (fAndV (fUn (oIsi "list") (fVarV 0)) (fBin oEq (fL (fComp [1] (iL (fVarV 0)) (bN 1) (fOr (fNot (fB (fUn (oIsi "int") (fVarV 1)))) (fB (fUn (oIsi "bool") (fVarV 1)))) (fVarV 1))) (fL (fLst fNil)))))
theorem j_x_law_is_list (B : Bi mg) (Z : Bz P base) {f : Addr} {cdv : Value} {A : Around} {outer : List Env} {s : Shared} {H : Hp} {E : XK} (hr : Room 40 (A.deeper (envOfC "_law_is_list" (defScope s_x_law_is_list) s.heap.objs.size f cdv))) : ∃ t, JSs (cxOf CX0 P w K mg base N_x_law_is_list "_law_is_list" (defScope s_x_law_is_list) f cdv A outer s H E).nox K (defBody s_x_law_is_list) t (T_x_law_is_list) :=
 ⟨_, (jss_one (js_retV (jv_and (jv_isi (jv_v 0) (by rfl) B.isinstance (by rfl) B.list (by decide +kernel)) (jv_one (jv_eq hr (jf_lc (own := [("n", 1)]) rfl sc_x_law_is_list.nd (ji_l (jv_v 0)) (blkOk_by (N := N_x_law_is_list) (sc := defScope s_x_law_is_list) (by decide +kernel)) (fun _ _ _ _ _ => (jg_n 1 sc_x_law_is_list.nd)) (fun _ _ _ _ _ => (jts_one (jw_or (jt_not (jt_val (jv_isi (jv_v 1) (by rfl) B.isinstance (by rfl) B.int (by decide +kernel)))) (jw_or1 (jt_val (jv_isi (jv_v 1) (by rfl) B.isinstance (by rfl) B.bool (by decide +kernel))))).t)) (fun _ _ _ _ _ => (jv_v 1))).v (jf_lst ja_nil).v)))))⟩
theorem c_x_law_is_list (B : Bi mg) (Z : Bz P base) {f : Addr} {fd : FuncData} (F : Fun K "_law_is_list" "_law_is_list" s_x_law_is_list f fd) (hm : mg "_law_is_list" = some (.ref f)) {gd : GD} (hlen : ∀ ds r, gd ds = some r → ds.length = 1)
  (hT : ∀ ds d b, gd ds = some (d, b) → T_x_law_is_list (endsOf d b) (startE 2 ds)) : Callee P w K mg base 41 "_law_is_list" ["told"] gd :=
  ⟨f, fd, fn_ok2 F sc_x_law_is_list hlen (fun cdv A outer s H E hr => j_x_law_is_list B Z hr) hT, hm, F.kp, F.binds fun _ _ _ _ _ _ us hl => match us, hl with | [_], _ => rfl⟩
/-! ### _law_menu -/
abbrev s_x_law_menu : Stmt := topS 24
abbrev N_x_law_menu : List Str := []
theorem sc_x_law_menu : FnScope N_x_law_menu [] (defScope s_x_law_menu) := ⟨rfl, rfl, rfl, by decide +kernel, rfl, by decide +kernel, by decide +kernel⟩
def T_x_law_menu : PTS :=
 (pRetF (fLst (fCons (fL (fLst (fCons (fC (.int 0)) (fCons (fC (.int 1)) fNil)))) (fCons (fL (fLst (fCons (fC (.int 1)) (fCons (fC (.int 1)) fNil)))) (fCons (fL (fLst (fCons (fUn oNeg (fC (.int 2))) (fCons (fC (.int 1)) fNil)))) (fCons (fL (fLst (fCons (fC (.int 3)) (fCons (fC (.int 2)) fNil)))) (fCons (fL (fLst (fCons (fC (.int 1)) (fCons (fC (.int 0)) (fCons (fC (.int 1)) fNil))))) (fCons (fL (fLst (fCons (fC (.int 1)) (fCons (fC (.int 1)) (fCons (fC (.int 1)) fNil))))) (fCons (fL (fLst (fCons (fC (.int 2)) (fCons (fC (.int 0)) (fCons (fC (.int 1)) fNil))))) (fCons (fL (fLst (fCons (fUn oNeg (fC (.int 2))) (fCons (fC (.int 0)) (fCons (fC (.int 0)) (fCons (fC (.int 1)) fNil)))))) fNil))))))))))
theorem j_x_law_menu (B : Bi mg) (Z : Bz P base) {f : Addr} {cdv : Value} {A : Around} {outer : List Env} {s : Shared} {H : Hp} {E : XK} (hr : Room 40 (A.deeper (envOfC "_law_menu" (defScope s_x_law_menu) s.heap.objs.size f cdv))) : ∃ t, JSs (cxOf CX0 P w K mg base N_x_law_menu "_law_menu" (defScope s_x_law_menu) f cdv A outer s H E).nox K (defBody s_x_law_menu) t (T_x_law_menu) :=
 ⟨_, (jss_one (js_retF (jf_lst (ja_cons (jf_lst (ja_cons jv_int (ja_cons jv_int ja_nil))).v (ja_cons (jf_lst (ja_cons jv_int (ja_cons jv_int ja_nil))).v (ja_cons (jf_lst (ja_cons (jv_neg jv_int) (ja_cons jv_int ja_nil))).v (ja_cons (jf_lst (ja_cons jv_int (ja_cons jv_int ja_nil))).v (ja_cons (jf_lst (ja_cons jv_int (ja_cons jv_int (ja_cons jv_int ja_nil)))).v (ja_cons (jf_lst (ja_cons jv_int (ja_cons jv_int (ja_cons jv_int ja_nil)))).v (ja_cons (jf_lst (ja_cons jv_int (ja_cons jv_int (ja_cons jv_int ja_nil)))).v (ja_cons (jf_lst (ja_cons (jv_neg jv_int) (ja_cons jv_int (ja_cons jv_int (ja_cons jv_int ja_nil))))).v ja_nil)))))))))))⟩
theorem c_x_law_menu (B : Bi mg) (Z : Bz P base) {f : Addr} {fd : FuncData} (F : Fun K "_law_menu" "_law_menu" s_x_law_menu f fd) (hm : mg "_law_menu" = some (.ref f)) {gd : GD} (hlen : ∀ ds r, gd ds = some r → ds.length = 0)
  (hT : ∀ ds d b, gd ds = some (d, b) → T_x_law_menu (endsOf d b) (startE 0 ds)) : Callee P w K mg base 41 "_law_menu" [] gd :=
  ⟨f, fd, fn_ok2 F sc_x_law_menu hlen (fun cdv A outer s H E hr => j_x_law_menu B Z hr) hT, hm, F.kp, F.binds fun _ _ _ _ _ _ us hl => match us, hl with | [], _ => rfl⟩
/-! ### _law_built -/
abbrev s_x_law_built : Stmt := topS 25
abbrev N_x_law_built : List Str := ["number", "powers", "out", "t", "turn"]
theorem sc_x_law_built : FnScope N_x_law_built ["number", "powers"] (defScope s_x_law_built) := ⟨rfl, rfl, rfl, by decide +kernel, rfl, by decide +kernel, by decide +kernel⟩
def T_x_law_built (g_x_law_times : GD) (g_x_law_menu : GD) : PTS :=
 (pSeq (pSetV 2 (fL (fLst (fCons (fVarV 0) fNil))))
 (pSeq (pFor (iR1 (fCons (fC (.int 8)) fNil)) (bN 3)
 (pFor (iR1 (fCons (fIx (fVar 1) (fVarV 3)) fNil)) (bN 4)
 (pSetV 2 (fDef g_x_law_times (fCons (fVarV 2) (fCons (fIx (fDef g_x_law_menu fNil) (fVarV 3)) fNil))))))
 (pRetN 2)))
theorem j_x_law_built {g_x_law_times : GD} (C_x_law_times : Callee P w K mg base 42 "_law_times" ["one", "two"] g_x_law_times) {g_x_law_menu : GD} (C_x_law_menu : Callee P w K mg base 41 "_law_menu" [] g_x_law_menu) (B : Bi mg) (Z : Bz P base) {f : Addr} {cdv : Value} {A : Around} {outer : List Env} {s : Shared} {H : Hp} {E : XK} (hr : Room 42 (A.deeper (envOfC "_law_built" (defScope s_x_law_built) s.heap.objs.size f cdv))) : ∃ t, JSs (cxOf CX0 P w K mg base N_x_law_built "_law_built" (defScope s_x_law_built) f cdv A outer s H E).nox K (defBody s_x_law_built) t (T_x_law_built g_x_law_times g_x_law_menu) :=
 ⟨_, (jss_cons (js_setV 2 sc_x_law_built.nd (jf_lst (ja_cons (jv_v 0) ja_nil)).v)
 (jss_cons (js_for rfl (ji_r1 (by rfl) B.range (ja_cons jv_int ja_nil)) (jg_n 3 sc_x_law_built.nd) (jss_one (js_for rfl (ji_r1 (by rfl) B.range (ja_cons (jv_ix (jr_v 1) (jv_v 3)) ja_nil)) (jg_n 4 sc_x_law_built.nd) (jss_one (js_setV 2 sc_x_law_built.nd (jv_d C_x_law_times (hr.mono (by decide)) (by rfl) (ja_cons (jv_v 2) (ja_cons (jv_ix (jv_d0 C_x_law_menu (hr.mono (by decide)) (by rfl)).r (jv_v 3)) ja_nil))))))))
 (jss_one (js_retN (jr_v 2)))))⟩
theorem c_x_law_built {g_x_law_times : GD} (C_x_law_times : Callee P w K mg base 42 "_law_times" ["one", "two"] g_x_law_times) {g_x_law_menu : GD} (C_x_law_menu : Callee P w K mg base 41 "_law_menu" [] g_x_law_menu) (B : Bi mg) (Z : Bz P base) {f : Addr} {fd : FuncData} (F : Fun K "_law_built" "_law_built" s_x_law_built f fd) (hm : mg "_law_built" = some (.ref f)) {gd : GD} (hlen : ∀ ds r, gd ds = some r → ds.length = 2)
  (hT : ∀ ds d b, gd ds = some (d, b) → T_x_law_built g_x_law_times g_x_law_menu (endsOf d b) (startE 5 ds)) : Callee P w K mg base 43 "_law_built" ["number", "powers"] gd :=
  ⟨f, fd, fn_ok2 F sc_x_law_built hlen (fun cdv A outer s H E hr => j_x_law_built C_x_law_times C_x_law_menu B Z hr) hT, hm, F.kp, F.binds fun _ _ _ _ _ _ us hl => match us, hl with | [_, _], _ => rfl⟩
/-! ### _law_powers -/
abbrev s_x_law_powers : Stmt := topS 26
abbrev N_x_law_powers : List Str := ["draws", "k", "most", "t"]
theorem sc_x_law_powers : FnScope N_x_law_powers ["draws", "k", "most"] (defScope s_x_law_powers) := ⟨rfl, rfl, rfl, by decide +kernel, rfl, by decide +kernel, by decide +kernel⟩
def cs_x_law_powers_171_11 : Scope := { kind := .function, names := [(".0", .local), ("t", .local), ("max", .globalImplicit), ("_law_mix", .globalImplicit), ("draws", .free), ("k", .free), ("most", .free)], isGenerator := false, isCoroutine := false, more := [] }
def T_x_law_powers (g_x_law_mix : GD) : PTS :=
 (pRetF (fComp [3] (iR1 (fCons (fC (.int 8)) fNil)) (bN 3) fYes (fCall oMax2 (fCons (fC (.int 0)) (fCons (fBin oSub (fDef g_x_law_mix (fCons (fVarV 0) (fCons (fBin oAdd (fVarV 1) (fVarV 3)) (fCons (fBin oAdd (fVarV 2) (fC (.int 3))) fNil)))) (fC (.int 2))) fNil)))))
theorem j_x_law_powers {g_x_law_mix : GD} (C_x_law_mix : Callee P w K mg base 41 "_law_mix" ["draws", "k", "many"] g_x_law_mix) (B : Bi mg) (Z : Bz P base) {f : Addr} {cdv : Value} {A : Around} {outer : List Env} {s : Shared} {H : Hp} {E : XK} (hr : Room 41 (A.deeper (envOfC "_law_powers" (defScope s_x_law_powers) s.heap.objs.size f cdv))) : ∃ t, JSs (cxOf CX0 P w K mg base N_x_law_powers "_law_powers" (defScope s_x_law_powers) f cdv A outer s H E).nox K (defBody s_x_law_powers) t (T_x_law_powers g_x_law_mix) :=
 ⟨_, (jss_one (js_retF (jf_lc (own := [("t", 3)]) rfl sc_x_law_powers.nd (ji_r1 (by rfl) B.range (ja_cons jv_int ja_nil)) (blkOk_by (N := N_x_law_powers) (sc := defScope s_x_law_powers) (by decide +kernel)) (fun _ _ _ _ _ => (jg_n 3 sc_x_law_powers.nd)) (fun _ _ _ _ _ => jts_nil) (fun _ _ _ _ _ => (jv_max2 rfl (by rfl) B.max (ja_cons jv_int (ja_cons (jv_sub (jv_d C_x_law_mix (hr.mono (by decide)) (by rfl) (ja_cons (jv_v 0) (ja_cons (jv_add (jv_v 1) (jv_v 3)) (ja_cons (jv_add (jv_v 2) jv_int) ja_nil)))) jv_int) ja_nil)))))))⟩
theorem c_x_law_powers {g_x_law_mix : GD} (C_x_law_mix : Callee P w K mg base 41 "_law_mix" ["draws", "k", "many"] g_x_law_mix) (B : Bi mg) (Z : Bz P base) {f : Addr} {fd : FuncData} (F : Fun K "_law_powers" "_law_powers" s_x_law_powers f fd) (hm : mg "_law_powers" = some (.ref f)) {gd : GD} (hlen : ∀ ds r, gd ds = some r → ds.length = 3)
  (hT : ∀ ds d b, gd ds = some (d, b) → T_x_law_powers g_x_law_mix (endsOf d b) (startE 4 ds)) : Callee P w K mg base 42 "_law_powers" ["draws", "k", "most"] gd :=
  ⟨f, fd, fn_ok2 F sc_x_law_powers hlen (fun cdv A outer s H E hr => j_x_law_powers C_x_law_mix B Z hr) hT, hm, F.kp, F.binds fun _ _ _ _ _ _ us hl => match us, hl with | [_, _, _], _ => rfl⟩
/-! ### _law_number -/
abbrev s_x_law_number : Stmt := topS 27
abbrev N_x_law_number : List Str := ["draws", "k", "number"]
theorem sc_x_law_number : FnScope N_x_law_number ["draws", "k"] (defScope s_x_law_number) := ⟨rfl, rfl, rfl, by decide +kernel, rfl, by decide +kernel, by decide +kernel⟩
def T_x_law_number (g_x_law_mix : GD) : PTS :=
 (pSeq (pSetV 2 (fBin oAdd (fC (.int 1)) (fDef g_x_law_mix (fCons (fVarV 0) (fCons (fVarV 1) (fCons (fC (.int 1000)) fNil))))))
 (pRetV (fIx (fL (fLst (fCons (fC (.int 1)) (fCons (fUn oNeg (fC (.int 1))) (fCons (fVarV 2) (fCons (fUn oNeg (fVarV 2)) (fCons (fBin oMul (fVarV 2) (fBin oPow (fC (.int 10)) (fC (.int 12)))) (fCons (fUn oNeg (fC (.int 12))) fNil)))))))) (fDef g_x_law_mix (fCons (fVarV 0) (fCons (fBin oAdd (fVarV 1) (fC (.int 1))) (fCons (fC (.int 6)) fNil)))))))
theorem j_x_law_number {g_x_law_mix : GD} (C_x_law_mix : Callee P w K mg base 41 "_law_mix" ["draws", "k", "many"] g_x_law_mix) (B : Bi mg) (Z : Bz P base) {f : Addr} {cdv : Value} {A : Around} {outer : List Env} {s : Shared} {H : Hp} {E : XK} (hr : Room 41 (A.deeper (envOfC "_law_number" (defScope s_x_law_number) s.heap.objs.size f cdv))) : ∃ t, JSs (cxOf CX0 P w K mg base N_x_law_number "_law_number" (defScope s_x_law_number) f cdv A outer s H E).nox K (defBody s_x_law_number) t (T_x_law_number g_x_law_mix) :=
 ⟨_, (jss_cons (js_setV 2 sc_x_law_number.nd (jv_add jv_int (jv_d C_x_law_mix (hr.mono (by decide)) (by rfl) (ja_cons (jv_v 0) (ja_cons (jv_v 1) (ja_cons jv_int ja_nil))))))
 (jss_one (js_retV (jv_ix (jf_lst (ja_cons jv_int (ja_cons (jv_neg jv_int) (ja_cons (jv_v 2) (ja_cons (jv_neg (jv_v 2)) (ja_cons (jv_mul (jv_v 2) (jv_pow jv_int jv_int)) (ja_cons (jv_neg jv_int) ja_nil))))))).v.r (jv_d C_x_law_mix (hr.mono (by decide)) (by rfl) (ja_cons (jv_v 0) (ja_cons (jv_add (jv_v 1) jv_int) (ja_cons jv_int ja_nil))))))))⟩
theorem c_x_law_number {g_x_law_mix : GD} (C_x_law_mix : Callee P w K mg base 41 "_law_mix" ["draws", "k", "many"] g_x_law_mix) (B : Bi mg) (Z : Bz P base) {f : Addr} {fd : FuncData} (F : Fun K "_law_number" "_law_number" s_x_law_number f fd) (hm : mg "_law_number" = some (.ref f)) {gd : GD} (hlen : ∀ ds r, gd ds = some r → ds.length = 2)
  (hT : ∀ ds d b, gd ds = some (d, b) → T_x_law_number g_x_law_mix (endsOf d b) (startE 3 ds)) : Callee P w K mg base 42 "_law_number" ["draws", "k"] gd :=
  ⟨f, fd, fn_ok2 F sc_x_law_number hlen (fun cdv A outer s H E hr => j_x_law_number C_x_law_mix B Z hr) hT, hm, F.kp, F.binds fun _ _ _ _ _ _ us hl => match us, hl with | [_, _], _ => rfl⟩
/-! ### _law_any -/
abbrev s_x_law_any : Stmt := topS 28
abbrev N_x_law_any : List Str := ["draws", "k", "most", "t"]
theorem sc_x_law_any : FnScope N_x_law_any ["draws", "k"] (defScope s_x_law_any) := ⟨rfl, rfl, rfl, by decide +kernel, rfl, by decide +kernel, by decide +kernel⟩
def cs_x_law_any_177_24 : Scope := { kind := .function, names := [(".0", .local), ("t", .local), ("_law_mix", .globalImplicit), ("draws", .free), ("k", .free), ("most", .free)], isGenerator := false, isCoroutine := false, more := [] }
def T_x_law_any (g_x_law_mix : GD) (g_x_law_trimmed : GD) : PTS :=
 (pSeq (pSetV 2 (fIx (fL (fLst (fCons (fC (.int 3)) (fCons (fC (.int 1000000)) fNil)))) (fDef g_x_law_mix (fCons (fVarV 0) (fCons (fVarV 1) (fCons (fC (.int 2)) fNil))))))
 (pRetF (fDefF g_x_law_trimmed (fCons (fL (fComp [3] (iR1 (fCons (fDef g_x_law_mix (fCons (fVarV 0) (fCons (fBin oAdd (fVarV 1) (fC (.int 1))) (fCons (fC (.int 8)) fNil)))) fNil)) (bN 3) fYes (fBin oSub (fDef g_x_law_mix (fCons (fVarV 0) (fCons (fBin oAdd (fBin oAdd (fVarV 1) (fC (.int 2))) (fVarV 3)) (fCons (fBin oAdd (fBin oMul (fC (.int 2)) (fVarV 2)) (fC (.int 1))) fNil)))) (fVarV 2)))) fNil))))
theorem j_x_law_any {g_x_law_mix : GD} (C_x_law_mix : Callee P w K mg base 41 "_law_mix" ["draws", "k", "many"] g_x_law_mix) {g_x_law_trimmed : GD} (C_x_law_trimmed : Callee P w K mg base 41 "_law_trimmed" ["numbers"] g_x_law_trimmed) (B : Bi mg) (Z : Bz P base) {f : Addr} {cdv : Value} {A : Around} {outer : List Env} {s : Shared} {H : Hp} {E : XK} (hr : Room 41 (A.deeper (envOfC "_law_any" (defScope s_x_law_any) s.heap.objs.size f cdv))) : ∃ t, JSs (cxOf CX0 P w K mg base N_x_law_any "_law_any" (defScope s_x_law_any) f cdv A outer s H E).nox K (defBody s_x_law_any) t (T_x_law_any g_x_law_mix g_x_law_trimmed) :=
 ⟨_, (jss_cons (js_setV 2 sc_x_law_any.nd (jv_ix (jf_lst (ja_cons jv_int (ja_cons jv_int ja_nil))).v.r (jv_d C_x_law_mix (hr.mono (by decide)) (by rfl) (ja_cons (jv_v 0) (ja_cons (jv_v 1) (ja_cons jv_int ja_nil))))))
 (jss_one (js_retF (jf_d C_x_law_trimmed (hr.mono (by decide)) (by rfl) (ja_cons (jf_lc (own := [("t", 3)]) rfl sc_x_law_any.nd (ji_r1 (by rfl) B.range (ja_cons (jv_d C_x_law_mix (hr.mono (by decide)) (by rfl) (ja_cons (jv_v 0) (ja_cons (jv_add (jv_v 1) jv_int) (ja_cons jv_int ja_nil)))) ja_nil)) (blkOk_by (N := N_x_law_any) (sc := defScope s_x_law_any) (by decide +kernel)) (fun _ _ _ _ _ => (jg_n 3 sc_x_law_any.nd)) (fun _ _ _ _ _ => jts_nil) (fun _ _ _ _ _ => (jv_sub (jv_d C_x_law_mix (hr.mono (by decide)) (by rfl) (ja_cons (jv_v 0) (ja_cons (jv_add (jv_add (jv_v 1) jv_int) (jv_v 3)) (ja_cons (jv_add (jv_mul jv_int (jv_v 2)) jv_int) ja_nil)))) (jv_v 2)))).v ja_nil)))))⟩
theorem c_x_law_any {g_x_law_mix : GD} (C_x_law_mix : Callee P w K mg base 41 "_law_mix" ["draws", "k", "many"] g_x_law_mix) {g_x_law_trimmed : GD} (C_x_law_trimmed : Callee P w K mg base 41 "_law_trimmed" ["numbers"] g_x_law_trimmed) (B : Bi mg) (Z : Bz P base) {f : Addr} {fd : FuncData} (F : Fun K "_law_any" "_law_any" s_x_law_any f fd) (hm : mg "_law_any" = some (.ref f)) {gd : GD} (hlen : ∀ ds r, gd ds = some r → ds.length = 2)
  (hT : ∀ ds d b, gd ds = some (d, b) → T_x_law_any g_x_law_mix g_x_law_trimmed (endsOf d b) (startE 4 ds)) : Callee P w K mg base 42 "_law_any" ["draws", "k"] gd :=
  ⟨f, fd, fn_ok2 F sc_x_law_any hlen (fun cdv A outer s H E hr => j_x_law_any C_x_law_mix C_x_law_trimmed B Z hr) hT, hm, F.kp, F.binds fun _ _ _ _ _ _ us hl => match us, hl with | [_, _], _ => rfl⟩
/-! ### _law_powers_told -/
abbrev s_x_law_powers_told : Stmt := topS 29
abbrev N_x_law_powers_told : List Str := ["draws", "mine", "other", "few", "one", "two", "part", "plain", "t", "shared", "kept", "turn", "told", "row", "due", "found", "counts"]
theorem sc_x_law_powers_told : FnScope N_x_law_powers_told ["draws"] (defScope s_x_law_powers_told) := ⟨rfl, rfl, rfl, by decide +kernel, rfl, by decide +kernel, by decide +kernel⟩
def cs_x_law_powers_told_186_27 : Scope := { kind := .function, names := [(".0", .local), ("t", .local), ("min", .globalImplicit), ("mine", .free), ("other", .free)], isGenerator := false, isCoroutine := false, more := [] }
def cs_x_law_powers_told_190_63 : Scope := { kind := .function, names := [(".0", .local), ("t", .local), ("min", .globalImplicit), ("mine", .free)], isGenerator := false, isCoroutine := false, more := [] }
def cs_x_law_powers_told_192_11 : Scope := { kind := .function, names := [(".0", .local), ("row", .local), ("_law_is_list", .globalImplicit)], isGenerator := false, isCoroutine := false, more := [] }
def cs_x_law_powers_told_197_7 : Scope := { kind := .function, names := [(".0", .local), ("t", .local), ("few", .free), ("mine", .free)], isGenerator := false, isCoroutine := false, more := [] }
def cs_x_law_powers_told_198_47 : Scope := { kind := .function, names := [(".0", .local), ("t", .local), ("few", .free), ("mine", .free)], isGenerator := false, isCoroutine := false, more := [] }
def cs_x_law_powers_told_202_13 : Scope := { kind := .function, names := [(".0", .local), ("t", .local), ("few", .free), ("mine", .free)], isGenerator := false, isCoroutine := false, more := [] }
def T_x_law_powers_told (g_x_law_powers : GD) (g_x_law_built : GD) (g_x_law_number : GD) (g_squarefree : GD) (g_gcd : GD) (g_primitive : GD) (g_x_law_is_list : GD) (g_divided : GD) (g_often : GD) (g_x_law_menu : GD) : PTS :=
 (pSeq (pSetV 1 (fDef g_x_law_powers (fCons (fVarV 0) (fCons (fC (.int 0)) (fCons (fC (.int 3)) fNil)))))
 (pSeq (pSetV 2 (fDef g_x_law_powers (fCons (fVarV 0) (fCons (fC (.int 10)) (fCons (fC (.int 3)) fNil)))))
 (pSeq (pSetV 3 (fDef g_x_law_powers (fCons (fVarV 0) (fCons (fC (.int 20)) (fCons (fC (.int 2)) fNil)))))
 (pSeq (pSetV 4 (fDef g_x_law_built (fCons (fDef g_x_law_number (fCons (fVarV 0) (fCons (fC (.int 30)) fNil))) (fCons (fVarV 1) fNil))))
 (pSeq (pSetV 5 (fDef g_x_law_built (fCons (fDef g_x_law_number (fCons (fVarV 0) (fCons (fC (.int 32)) fNil))) (fCons (fVarV 2) fNil))))
 (pSeq (pSetV 6 (fDef g_x_law_built (fCons (fC (.int 1)) (fCons (fVarV 3) fNil))))
 (pSeq (pSetV 7 (fDef g_x_law_built (fCons (fC (.int 1)) (fCons (fVarV 1) fNil))))
 (pSeq (pSetV 9 (fDef g_x_law_built (fCons (fC (.int 1)) (fCons (fL (fComp [8] (iR1 (fCons (fC (.int 8)) fNil)) (bN 8) fYes (fCall oMin2 (fCons (fIx (fVar 1) (fVarV 8)) (fCons (fIx (fVar 2) (fVarV 8)) fNil))))) fNil))))
 (pSeq (pSetV 10 (fCall oRepr (fCons (fTup (fCons (fVarV 4) (fCons (fVarV 5) (fCons (fVarV 6) fNil)))) fNil)))
 (pSeq (pFor (iR1 (fCons (fC (.int 2)) fNil)) (bN 11)
 (pYoung 12 13 (fCons (fL (fShort (fDefF g_primitive (fCons (fVarV 4) fNil)))) (fCons (fL (fShort (fDefF g_gcd (fCons (fVarV 4) (fCons (fVarV 5) fNil))))) (fCons (fL (fShort (fDefF g_gcd (fCons (fVarV 4) (fCons (fL (fLst fNil)) fNil))))) (fCons (fL (fShort (fDefF g_gcd (fCons (fL (fLst fNil)) (fCons (fVarV 4) fNil))))) (fCons (fL (fShort (fDefF g_squarefree (fCons (fVarV 4) fNil)))) fNil)))))
 (fB (fBin oNe (fVarV 12) (fL (fLst (fCons (fVarV 7) (fCons (fVarV 9) (fCons (fVarV 7) (fCons (fVarV 7) (fCons (fDef g_x_law_built (fCons (fC (.int 1)) (fCons (fL (fComp [8] (iR1 (fCons (fC (.int 8)) fNil)) (bN 8) fYes (fCall oMin2 (fCons (fC (.int 1)) (fCons (fIx (fVar 1) (fVarV 8)) fNil))))) fNil))) fNil)))))))))
 (fB (fBin oNe (fL (fComp [13] (iL (fVarV 12)) (bN 13) (fNot (fB (fDef g_x_law_is_list (fCons (fVarV 13) fNil)))) (fVarV 13))) (fL (fLst fNil))))))
 (pSeq (pSetV 14 (fC .none))
 (pSeq (pIf (fB (fBin oEq (fL (fComp [8] (iR1 (fCons (fC (.int 8)) fNil)) (bN 8) (fB (fBin oGt (fIx (fVar 3) (fVarV 8)) (fIx (fVar 1) (fVarV 8)))) (fVarV 8))) (fL (fLst fNil))))
 (pSetV 14 (fDef g_x_law_built (fCons (fBin oDivZ (fIx (fVar 4) (fUn oNeg (fC (.int 1)))) (fIx (fVar 7) (fUn oNeg (fC (.int 1))))) (fCons (fL (fComp [8] (iR1 (fCons (fC (.int 8)) fNil)) (bN 8) fYes (fBin oSub (fIx (fVar 1) (fVarV 8)) (fIx (fVar 3) (fVarV 8))))) fNil))))
 pNext)
 (pSeq (pSetV 15 (fDef g_divided (fCons (fVarV 4) (fCons (fVarV 6) fNil))))
 (pSeq (pIf (fOr (fB (fBin oNe (fVarV 15) (fVarV 14))) (fAnd (fB (fBin (oIsN true) (fVarV 15) (fC .none))) (fNot (fB (fDef g_x_law_is_list (fCons (fVarV 15) fNil))))))
 (pRetV (fC (.bool false)))
 pNext)
 (pSeq (pSetV 16 (fL (fComp [8] (iR1 (fCons (fC (.int 8)) fNil)) (bN 8) (fB (fBin oGt (fIx (fVar 3) (fVarV 8)) (fC (.int 0)))) (fBin oDivZ (fIx (fVar 1) (fVarV 8)) (fIx (fVar 3) (fVarV 8))))))
 (pSeq (pIf (fAnd (fB (fBin oNe (fVarV 16) (fL (fLst fNil)))) (fOr (fB (fBin oNe (fDef g_often (fCons (fVarV 4) (fCons (fVarV 6) fNil))) (fCall oMin1 (fCons (fVarV 16) fNil)))) (fB (fUn (oIsi "bool") (fDef g_often (fCons (fVarV 4) (fCons (fVarV 6) fNil)))))))
 (pRetV (fC (.bool false)))
 pNext)
 (pSeq (pFor (iR1 (fCons (fC (.int 8)) fNil)) (bN 8)
 (pIf (fB (fBin oNe (fDef g_often (fCons (fVarV 4) (fCons (fIx (fDef g_x_law_menu fNil) (fVarV 8)) fNil))) (fIx (fVar 1) (fVarV 8))))
 (pRetV (fC (.bool false)))
 pNext))
 (pRetV (fBin oEq (fCall oRepr (fCons (fTup (fCons (fVarV 4) (fCons (fVarV 5) (fCons (fVarV 6) fNil)))) fNil)) (fVarV 10))))))))))))))))))))
theorem j_x_law_powers_told {g_x_law_powers : GD} (C_x_law_powers : Callee P w K mg base 42 "_law_powers" ["draws", "k", "most"] g_x_law_powers) {g_x_law_built : GD} (C_x_law_built : Callee P w K mg base 43 "_law_built" ["number", "powers"] g_x_law_built) {g_x_law_number : GD} (C_x_law_number : Callee P w K mg base 42 "_law_number" ["draws", "k"] g_x_law_number) {g_squarefree : GD} (C_squarefree : Callee P w K mg base 45 "squarefree" ["one"] g_squarefree) {g_gcd : GD} (C_gcd : Callee P w K mg base 44 "gcd" ["one", "two"] g_gcd) {g_primitive : GD} (C_primitive : Callee P w K mg base 42 "primitive" ["one"] g_primitive) {g_x_law_is_list : GD} (C_x_law_is_list : Callee P w K mg base 41 "_law_is_list" ["told"] g_x_law_is_list) {g_divided : GD} (C_divided : Callee P w K mg base 41 "divided" ["one", "two"] g_divided) {g_often : GD} (C_often : Callee P w K mg base 42 "often" ["one", "two"] g_often) {g_x_law_menu : GD} (C_x_law_menu : Callee P w K mg base 41 "_law_menu" [] g_x_law_menu) (B : Bi mg) (Z : Bz P base) {f : Addr} {cdv : Value} {A : Around} {outer : List Env} {s : Shared} {H : Hp} {E : XK} (hr : Room 45 (A.deeper (envOfC "_law_powers_told" (defScope s_x_law_powers_told) s.heap.objs.size f cdv))) (hG : A.guards = some []) : ∃ t, JSs (cxOf CX0 P w K mg base N_x_law_powers_told "_law_powers_told" (defScope s_x_law_powers_told) f cdv A outer s H E).nox K (defBody s_x_law_powers_told) t (T_x_law_powers_told g_x_law_powers g_x_law_built g_x_law_number g_squarefree g_gcd g_primitive g_x_law_is_list g_divided g_often g_x_law_menu) :=
 ⟨_, (jss_cons (js_setV 1 sc_x_law_powers_told.nd (jv_d C_x_law_powers (hr.mono (by decide)) (by rfl) (ja_cons (jv_v 0) (ja_cons jv_int (ja_cons jv_int ja_nil)))))
 (jss_cons (js_setV 2 sc_x_law_powers_told.nd (jv_d C_x_law_powers (hr.mono (by decide)) (by rfl) (ja_cons (jv_v 0) (ja_cons jv_int (ja_cons jv_int ja_nil)))))
 (jss_cons (js_setV 3 sc_x_law_powers_told.nd (jv_d C_x_law_powers (hr.mono (by decide)) (by rfl) (ja_cons (jv_v 0) (ja_cons jv_int (ja_cons jv_int ja_nil)))))
 (jss_cons (js_setV 4 sc_x_law_powers_told.nd (jv_d C_x_law_built (hr.mono (by decide)) (by rfl) (ja_cons (jv_d C_x_law_number (hr.mono (by decide)) (by rfl) (ja_cons (jv_v 0) (ja_cons jv_int ja_nil))) (ja_cons (jv_v 1) ja_nil))))
 (jss_cons (js_setV 5 sc_x_law_powers_told.nd (jv_d C_x_law_built (hr.mono (by decide)) (by rfl) (ja_cons (jv_d C_x_law_number (hr.mono (by decide)) (by rfl) (ja_cons (jv_v 0) (ja_cons jv_int ja_nil))) (ja_cons (jv_v 2) ja_nil))))
 (jss_cons (js_setV 6 sc_x_law_powers_told.nd (jv_d C_x_law_built (hr.mono (by decide)) (by rfl) (ja_cons jv_int (ja_cons (jv_v 3) ja_nil))))
 (jss_cons (js_setV 7 sc_x_law_powers_told.nd (jv_d C_x_law_built (hr.mono (by decide)) (by rfl) (ja_cons jv_int (ja_cons (jv_v 1) ja_nil))))
 (jss_cons (js_setV 9 sc_x_law_powers_told.nd (jv_d C_x_law_built (hr.mono (by decide)) (by rfl) (ja_cons jv_int (ja_cons (jf_lc (own := [("t", 8)]) rfl sc_x_law_powers_told.nd (ji_r1 (by rfl) B.range (ja_cons jv_int ja_nil)) (blkOk_by (N := N_x_law_powers_told) (sc := defScope s_x_law_powers_told) (by decide +kernel)) (fun _ _ _ _ _ => (jg_n 8 sc_x_law_powers_told.nd)) (fun _ _ _ _ _ => jts_nil) (fun _ _ _ _ _ => (jv_min2 rfl (by rfl) B.min (ja_cons (jv_ix (jr_v 1) (jv_v 8)) (ja_cons (jv_ix (jr_v 2) (jv_v 8)) ja_nil))))).v ja_nil))))
 (jss_cons (js_setV 10 sc_x_law_powers_told.nd (jv_repr hr hG (by rfl) B.repr (ja_cons (jv_tup (ja_cons (jv_v 4) (ja_cons (jv_v 5) (ja_cons (jv_v 6) ja_nil)))) ja_nil)))
 (jss_cons (js_for rfl (ji_r1 (by rfl) B.range (ja_cons jv_int ja_nil)) (jg_n 11 sc_x_law_powers_told.nd) (jss_young (i := 12) (j := 13) sc_x_law_powers_told.nd (jy_cons (jf_d C_primitive (hr.mono (by decide)) (by rfl) (ja_cons (jv_v 4) ja_nil)) (jy_cons (jf_d C_gcd (hr.mono (by decide)) (by rfl) (ja_cons (jv_v 4) (ja_cons (jv_v 5) ja_nil))) (jy_cons (jf_d C_gcd (hr.mono (by decide)) (by rfl) (ja_cons (jv_v 4) (ja_cons (jf_lst ja_nil).v ja_nil))) (jy_cons (jf_d C_gcd (hr.mono (by decide)) (by rfl) (ja_cons (jf_lst ja_nil).v (ja_cons (jv_v 4) ja_nil))) (jy_cons (jf_d C_squarefree (hr.mono (by decide)) (by rfl) (ja_cons (jv_v 4) ja_nil)) jy_nil)))))
 (jt_ne hr (jv_v 12) (jf_lst (ja_cons (jv_v 7) (ja_cons (jv_v 9) (ja_cons (jv_v 7) (ja_cons (jv_v 7) (ja_cons (jv_d C_x_law_built (hr.mono (by decide)) (by rfl) (ja_cons jv_int (ja_cons (jf_lc (own := [("t", 8)]) rfl sc_x_law_powers_told.nd (ji_r1 (by rfl) B.range (ja_cons jv_int ja_nil)) (blkOk_by (N := N_x_law_powers_told) (sc := defScope s_x_law_powers_told) (by decide +kernel)) (fun _ _ _ _ _ => (jg_n 8 sc_x_law_powers_told.nd)) (fun _ _ _ _ _ => jts_nil) (fun _ _ _ _ _ => (jv_min2 rfl (by rfl) B.min (ja_cons jv_int (ja_cons (jv_ix (jr_v 1) (jv_v 8)) ja_nil))))).v ja_nil))) ja_nil)))))).v) (jss_one (js_retV jv_bl))
 (jt_ne hr (jf_lc (own := [("row", 13)]) rfl sc_x_law_powers_told.nd (ji_l (jv_v 12)) (blkOk_by (N := N_x_law_powers_told) (sc := defScope s_x_law_powers_told) (by decide +kernel)) (fun _ _ _ _ _ => (jg_n 13 sc_x_law_powers_told.nd)) (fun _ _ _ _ _ => (jts_one (jt_not (jt_val (jv_d C_x_law_is_list (hr.mono (by decide)) (by rfl) (ja_cons (jv_v 13) ja_nil)))))) (fun _ _ _ _ _ => (jv_v 13))).v (jf_lst ja_nil).v) (jss_one (js_retV jv_bl))
 (js_for rfl (ji_l (jv_v 12)) (jg_n 13 sc_x_law_powers_told.nd) (jss_one (js_ap 13 (jr_v 13) jv_int)))))
 (jss_cons (js_setV 14 sc_x_law_powers_told.nd jv_non)
 (jss_cons (js_if (jt_eq hr (jf_lc (own := [("t", 8)]) rfl sc_x_law_powers_told.nd (ji_r1 (by rfl) B.range (ja_cons jv_int ja_nil)) (blkOk_by (N := N_x_law_powers_told) (sc := defScope s_x_law_powers_told) (by decide +kernel)) (fun _ _ _ _ _ => (jg_n 8 sc_x_law_powers_told.nd)) (fun _ _ _ _ _ => (jts_one (jt_gt (jv_ix (jr_v 3) (jv_v 8)) (jv_ix (jr_v 1) (jv_v 8))))) (fun _ _ _ _ _ => (jv_v 8))).v (jf_lst ja_nil).v) (jss_one (js_setV 14 sc_x_law_powers_told.nd (jv_d C_x_law_built (hr.mono (by decide)) (by rfl) (ja_cons (jv_divZ Z hr (jv_ix (jr_v 4) (jv_neg jv_int)) (jv_ix (jr_v 7) (jv_neg jv_int))) (ja_cons (jf_lc (own := [("t", 8)]) rfl sc_x_law_powers_told.nd (ji_r1 (by rfl) B.range (ja_cons jv_int ja_nil)) (blkOk_by (N := N_x_law_powers_told) (sc := defScope s_x_law_powers_told) (by decide +kernel)) (fun _ _ _ _ _ => (jg_n 8 sc_x_law_powers_told.nd)) (fun _ _ _ _ _ => jts_nil) (fun _ _ _ _ _ => (jv_sub (jv_ix (jr_v 1) (jv_v 8)) (jv_ix (jr_v 3) (jv_v 8))))).v ja_nil))))) jss_nil)
 (jss_cons (js_setV 15 sc_x_law_powers_told.nd (jv_d C_divided (hr.mono (by decide)) (by rfl) (ja_cons (jv_v 4) (ja_cons (jv_v 6) ja_nil))))
 (jss_cons (js_if (jw_or (jt_ne hr (jv_v 15) (jv_v 14)) (jw_or1 (jw_and (jt_notN (jv_v 15) jv_non) (jw_and1 (jt_not (jt_val (jv_d C_x_law_is_list (hr.mono (by decide)) (by rfl) (ja_cons (jv_v 15) ja_nil)))))).t)).t (jss_one (js_retV jv_bl)) jss_nil)
 (jss_cons (js_setLcV (i := 16) (own := [("t", 8)]) rfl sc_x_law_powers_told.nd rfl rfl (sw_true rfl rfl rfl (by decide +kernel)) (ji_r1 (by rfl) B.range (ja_cons jv_int ja_nil)) (blkOk_by (N := N_x_law_powers_told) (sc := defScope s_x_law_powers_told) (by decide +kernel)) (fun _ _ _ _ _ => (jg_n 8 sc_x_law_powers_told.nd)) (fun _ _ _ _ _ => (jts_one (jt_gt (jv_ix (jr_v 3) (jv_v 8)) jv_int))) (fun _ _ _ _ _ => (jv_divZ Z hr (jv_ix (jr_v 1) (jv_v 8)) (jv_ix (jr_v 3) (jv_v 8)))))
 (jss_cons (js_if (jw_and (jt_ne hr (jv_v 16) (jf_lst ja_nil).v) (jw_and1 (jw_or (jt_ne hr (jv_d C_often (hr.mono (by decide)) (by rfl) (ja_cons (jv_v 4) (ja_cons (jv_v 6) ja_nil))) (jv_min1 rfl (by rfl) B.min (ja_cons (jv_v 16) ja_nil))) (jw_or1 (jt_val (jv_isi (jv_d C_often (hr.mono (by decide)) (by rfl) (ja_cons (jv_v 4) (ja_cons (jv_v 6) ja_nil))) (by rfl) B.isinstance (by rfl) B.bool (by decide +kernel))))).t)).t (jss_one (js_retV jv_bl)) jss_nil)
 (jss_cons (js_for rfl (ji_r1 (by rfl) B.range (ja_cons jv_int ja_nil)) (jg_n 8 sc_x_law_powers_told.nd) (jss_one (js_if (jt_ne hr (jv_d C_often (hr.mono (by decide)) (by rfl) (ja_cons (jv_v 4) (ja_cons (jv_ix (jv_d0 C_x_law_menu (hr.mono (by decide)) (by rfl)).r (jv_v 8)) ja_nil))) (jv_ix (jr_v 1) (jv_v 8))) (jss_one (js_retV jv_bl)) jss_nil)))
 (jss_one (js_retV (jv_eq hr (jv_repr hr hG (by rfl) B.repr (ja_cons (jv_tup (ja_cons (jv_v 4) (ja_cons (jv_v 5) (ja_cons (jv_v 6) ja_nil)))) ja_nil)) (jv_v 10)))))))))))))))))))))⟩
theorem c_x_law_powers_told {g_x_law_powers : GD} (C_x_law_powers : Callee P w K mg base 42 "_law_powers" ["draws", "k", "most"] g_x_law_powers) {g_x_law_built : GD} (C_x_law_built : Callee P w K mg base 43 "_law_built" ["number", "powers"] g_x_law_built) {g_x_law_number : GD} (C_x_law_number : Callee P w K mg base 42 "_law_number" ["draws", "k"] g_x_law_number) {g_squarefree : GD} (C_squarefree : Callee P w K mg base 45 "squarefree" ["one"] g_squarefree) {g_gcd : GD} (C_gcd : Callee P w K mg base 44 "gcd" ["one", "two"] g_gcd) {g_primitive : GD} (C_primitive : Callee P w K mg base 42 "primitive" ["one"] g_primitive) {g_x_law_is_list : GD} (C_x_law_is_list : Callee P w K mg base 41 "_law_is_list" ["told"] g_x_law_is_list) {g_divided : GD} (C_divided : Callee P w K mg base 41 "divided" ["one", "two"] g_divided) {g_often : GD} (C_often : Callee P w K mg base 42 "often" ["one", "two"] g_often) {g_x_law_menu : GD} (C_x_law_menu : Callee P w K mg base 41 "_law_menu" [] g_x_law_menu) (B : Bi mg) (Z : Bz P base) {f : Addr} {fd : FuncData} (F : Fun K "_law_powers_told" "_law_powers_told" s_x_law_powers_told f fd) (hm : mg "_law_powers_told" = some (.ref f)) {gd : GD} (hlen : ∀ ds r, gd ds = some r → ds.length = 1)
  (hT : ∀ ds d b, gd ds = some (d, b) → T_x_law_powers_told g_x_law_powers g_x_law_built g_x_law_number g_squarefree g_gcd g_primitive g_x_law_is_list g_divided g_often g_x_law_menu (endsOf d b) (startE 17 ds)) : CalleeG P w K mg base 46 "_law_powers_told" ["draws"] gd :=
  ⟨f, fd, fn_okG2 F sc_x_law_powers_told hlen (fun cdv A outer s H E hr hG => j_x_law_powers_told C_x_law_powers C_x_law_built C_x_law_number C_squarefree C_gcd C_primitive C_x_law_is_list C_divided C_often C_x_law_menu B Z hr hG) hT, hm, F.kp, F.binds fun _ _ _ _ _ _ us hl => match us, hl with | [_], _ => rfl⟩
/-! ### _law_others_told -/
abbrev s_x_law_others_told : Stmt := topS 30
abbrev N_x_law_others_told : List Str := ["draws", "shared", "one", "two", "told", "first", "second", "part"]
theorem sc_x_law_others_told : FnScope N_x_law_others_told ["draws"] (defScope s_x_law_others_told) := ⟨rfl, rfl, rfl, by decide +kernel, rfl, by decide +kernel, by decide +kernel⟩
def T_x_law_others_told (g_x_law_any : GD) (g_x_law_times : GD) (g_gcd : GD) (g_x_law_is_list : GD) (g_x_law_lowest : GD) (g_divided : GD) (g_x_law_common : GD) (g_x_law_mix : GD) (g_x_law_divided : GD) : PTS :=
 (pSeq (pSetV 1 (fDef g_x_law_any (fCons (fVarV 0) (fCons (fC (.int 40)) fNil))))
 (pSeq (pSetV 2 (fDef g_x_law_times (fCons (fVarV 1) (fCons (fDef g_x_law_any (fCons (fVarV 0) (fCons (fC (.int 50)) fNil))) fNil))))
 (pSeq (pSetV 3 (fDef g_x_law_times (fCons (fVarV 1) (fCons (fDef g_x_law_any (fCons (fVarV 0) (fCons (fC (.int 60)) fNil))) fNil))))
 (pSeq (pSetV 4 (fDef g_gcd (fCons (fVarV 2) (fCons (fVarV 3) fNil))))
 (pSeq (pIf (fAnd (fB (fBin oEq (fVarV 2) (fL (fLst fNil)))) (fB (fBin oEq (fVarV 3) (fL (fLst fNil)))))
 (pRetV (fBin oEq (fVarV 4) (fL (fLst fNil))))
 pNext)
 (pSeq (pIf (fOr (fNot (fB (fDef g_x_law_is_list (fCons (fVarV 4) fNil)))) (fOr (fB (fBin oEq (fVarV 4) (fL (fLst fNil)))) (fB (fBin oNe (fVarV 4) (fDef g_x_law_lowest (fCons (fVarV 4) fNil))))))
 (pRetV (fC (.bool false)))
 pNext)
 (pSeq (pSetV 5 (fDef g_divided (fCons (fVarV 2) (fCons (fVarV 4) fNil))))
 (pSeq (pSetV 6 (fDef g_divided (fCons (fVarV 3) (fCons (fVarV 4) fNil))))
 (pSeq (pIf (fOr (fB (fBin (oIsN false) (fVarV 5) (fC .none))) (fOr (fB (fBin (oIsN false) (fVarV 6) (fC .none))) (fOr (fB (fBin oNe (fDef g_x_law_times (fCons (fVarV 5) (fCons (fVarV 4) fNil))) (fVarV 2))) (fB (fBin oNe (fDef g_x_law_times (fCons (fVarV 6) (fCons (fVarV 4) fNil))) (fVarV 3))))))
 (pRetV (fC (.bool false)))
 pNext)
 (pSeq (pIf (fB (fBin oNe (fUn oLen (fDef g_x_law_common (fCons (fVarV 5) (fCons (fVarV 6) fNil)))) (fC (.int 1))))
 (pRetV (fC (.bool false)))
 pNext)
 (pSeq (pSetV 7 (fL (fLst (fCons (fBin oAdd (fC (.int 1)) (fDef g_x_law_mix (fCons (fVarV 0) (fCons (fC (.int 70)) (fCons (fC (.int 5)) fNil))))) (fCons (fBin oAdd (fC (.int 1)) (fDef g_x_law_mix (fCons (fVarV 0) (fCons (fC (.int 71)) (fCons (fC (.int 3)) fNil))))) fNil)))))
 (pSeq (pSetV 7 (fDef g_x_law_lowest (fCons (fVarV 7) fNil)))
 (pRetV (fAndV (fBin oEq (fDef g_divided (fCons (fVarV 2) (fCons (fVarV 7) fNil))) (fDef g_x_law_divided (fCons (fVarV 2) (fCons (fVarV 7) fNil)))) (fBin oEq (fDef g_gcd (fCons (fVarV 3) (fCons (fVarV 2) fNil))) (fVarV 4))))))))))))))))
theorem j_x_law_others_told {g_x_law_any : GD} (C_x_law_any : Callee P w K mg base 42 "_law_any" ["draws", "k"] g_x_law_any) {g_x_law_times : GD} (C_x_law_times : Callee P w K mg base 42 "_law_times" ["one", "two"] g_x_law_times) {g_gcd : GD} (C_gcd : Callee P w K mg base 44 "gcd" ["one", "two"] g_gcd) {g_x_law_is_list : GD} (C_x_law_is_list : Callee P w K mg base 41 "_law_is_list" ["told"] g_x_law_is_list) {g_x_law_lowest : GD} (C_x_law_lowest : Callee P w K mg base 42 "_law_lowest" ["one"] g_x_law_lowest) {g_divided : GD} (C_divided : Callee P w K mg base 41 "divided" ["one", "two"] g_divided) {g_x_law_common : GD} (C_x_law_common : Callee P w K mg base 43 "_law_common" ["one", "two"] g_x_law_common) {g_x_law_mix : GD} (C_x_law_mix : Callee P w K mg base 41 "_law_mix" ["draws", "k", "many"] g_x_law_mix) {g_x_law_divided : GD} (C_x_law_divided : Callee P w K mg base 42 "_law_divided" ["one", "two"] g_x_law_divided) (B : Bi mg) (Z : Bz P base) {f : Addr} {cdv : Value} {A : Around} {outer : List Env} {s : Shared} {H : Hp} {E : XK} (hr : Room 44 (A.deeper (envOfC "_law_others_told" (defScope s_x_law_others_told) s.heap.objs.size f cdv))) : ∃ t, JSs (cxOf CX0 P w K mg base N_x_law_others_told "_law_others_told" (defScope s_x_law_others_told) f cdv A outer s H E).nox K (defBody s_x_law_others_told) t (T_x_law_others_told g_x_law_any g_x_law_times g_gcd g_x_law_is_list g_x_law_lowest g_divided g_x_law_common g_x_law_mix g_x_law_divided) :=
 ⟨_, (jss_cons (js_setV 1 sc_x_law_others_told.nd (jv_d C_x_law_any (hr.mono (by decide)) (by rfl) (ja_cons (jv_v 0) (ja_cons jv_int ja_nil))))
 (jss_cons (js_setV 2 sc_x_law_others_told.nd (jv_d C_x_law_times (hr.mono (by decide)) (by rfl) (ja_cons (jv_v 1) (ja_cons (jv_d C_x_law_any (hr.mono (by decide)) (by rfl) (ja_cons (jv_v 0) (ja_cons jv_int ja_nil))) ja_nil))))
 (jss_cons (js_setV 3 sc_x_law_others_told.nd (jv_d C_x_law_times (hr.mono (by decide)) (by rfl) (ja_cons (jv_v 1) (ja_cons (jv_d C_x_law_any (hr.mono (by decide)) (by rfl) (ja_cons (jv_v 0) (ja_cons jv_int ja_nil))) ja_nil))))
 (jss_cons (js_setV 4 sc_x_law_others_told.nd (jv_d C_gcd (hr.mono (by decide)) (by rfl) (ja_cons (jv_v 2) (ja_cons (jv_v 3) ja_nil))))
 (jss_cons (js_if (jw_and (jt_eq hr (jv_v 2) (jf_lst ja_nil).v) (jw_and1 (jt_eq hr (jv_v 3) (jf_lst ja_nil).v))).t (jss_one (js_retV (jv_eq hr (jv_v 4) (jf_lst ja_nil).v))) jss_nil)
 (jss_cons (js_if (jw_or (jt_not (jt_val (jv_d C_x_law_is_list (hr.mono (by decide)) (by rfl) (ja_cons (jv_v 4) ja_nil)))) (jw_or (jt_eq hr (jv_v 4) (jf_lst ja_nil).v) (jw_or1 (jt_ne hr (jv_v 4) (jv_d C_x_law_lowest (hr.mono (by decide)) (by rfl) (ja_cons (jv_v 4) ja_nil)))))).t (jss_one (js_retV jv_bl)) jss_nil)
 (jss_cons (js_setV 5 sc_x_law_others_told.nd (jv_d C_divided (hr.mono (by decide)) (by rfl) (ja_cons (jv_v 2) (ja_cons (jv_v 4) ja_nil))))
 (jss_cons (js_setV 6 sc_x_law_others_told.nd (jv_d C_divided (hr.mono (by decide)) (by rfl) (ja_cons (jv_v 3) (ja_cons (jv_v 4) ja_nil))))
 (jss_cons (js_if (jw_or (jt_isN (jv_v 5) jv_non) (jw_or (jt_isN (jv_v 6) jv_non) (jw_or (jt_ne hr (jv_d C_x_law_times (hr.mono (by decide)) (by rfl) (ja_cons (jv_v 5) (ja_cons (jv_v 4) ja_nil))) (jv_v 2)) (jw_or1 (jt_ne hr (jv_d C_x_law_times (hr.mono (by decide)) (by rfl) (ja_cons (jv_v 6) (ja_cons (jv_v 4) ja_nil))) (jv_v 3)))))).t (jss_one (js_retV jv_bl)) jss_nil)
 (jss_cons (js_if (jt_ne hr (jv_len (by rfl) B.len (jv_d C_x_law_common (hr.mono (by decide)) (by rfl) (ja_cons (jv_v 5) (ja_cons (jv_v 6) ja_nil))).r) jv_int) (jss_one (js_retV jv_bl)) jss_nil)
 (jss_cons (js_setV 7 sc_x_law_others_told.nd (jf_lst (ja_cons (jv_add jv_int (jv_d C_x_law_mix (hr.mono (by decide)) (by rfl) (ja_cons (jv_v 0) (ja_cons jv_int (ja_cons jv_int ja_nil))))) (ja_cons (jv_add jv_int (jv_d C_x_law_mix (hr.mono (by decide)) (by rfl) (ja_cons (jv_v 0) (ja_cons jv_int (ja_cons jv_int ja_nil))))) ja_nil))).v)
 (jss_cons (js_setV 7 sc_x_law_others_told.nd (jv_d C_x_law_lowest (hr.mono (by decide)) (by rfl) (ja_cons (jv_v 7) ja_nil)))
 (jss_one (js_retV (jv_and (jv_eq hr (jv_d C_divided (hr.mono (by decide)) (by rfl) (ja_cons (jv_v 2) (ja_cons (jv_v 7) ja_nil))) (jv_d C_x_law_divided (hr.mono (by decide)) (by rfl) (ja_cons (jv_v 2) (ja_cons (jv_v 7) ja_nil)))) (jv_one (jv_eq hr (jv_d C_gcd (hr.mono (by decide)) (by rfl) (ja_cons (jv_v 3) (ja_cons (jv_v 2) ja_nil))) (jv_v 4))))))))))))))))))⟩
theorem c_x_law_others_told {g_x_law_any : GD} (C_x_law_any : Callee P w K mg base 42 "_law_any" ["draws", "k"] g_x_law_any) {g_x_law_times : GD} (C_x_law_times : Callee P w K mg base 42 "_law_times" ["one", "two"] g_x_law_times) {g_gcd : GD} (C_gcd : Callee P w K mg base 44 "gcd" ["one", "two"] g_gcd) {g_x_law_is_list : GD} (C_x_law_is_list : Callee P w K mg base 41 "_law_is_list" ["told"] g_x_law_is_list) {g_x_law_lowest : GD} (C_x_law_lowest : Callee P w K mg base 42 "_law_lowest" ["one"] g_x_law_lowest) {g_divided : GD} (C_divided : Callee P w K mg base 41 "divided" ["one", "two"] g_divided) {g_x_law_common : GD} (C_x_law_common : Callee P w K mg base 43 "_law_common" ["one", "two"] g_x_law_common) {g_x_law_mix : GD} (C_x_law_mix : Callee P w K mg base 41 "_law_mix" ["draws", "k", "many"] g_x_law_mix) {g_x_law_divided : GD} (C_x_law_divided : Callee P w K mg base 42 "_law_divided" ["one", "two"] g_x_law_divided) (B : Bi mg) (Z : Bz P base) {f : Addr} {fd : FuncData} (F : Fun K "_law_others_told" "_law_others_told" s_x_law_others_told f fd) (hm : mg "_law_others_told" = some (.ref f)) {gd : GD} (hlen : ∀ ds r, gd ds = some r → ds.length = 1)
  (hT : ∀ ds d b, gd ds = some (d, b) → T_x_law_others_told g_x_law_any g_x_law_times g_gcd g_x_law_is_list g_x_law_lowest g_divided g_x_law_common g_x_law_mix g_x_law_divided (endsOf d b) (startE 8 ds)) : Callee P w K mg base 45 "_law_others_told" ["draws"] gd :=
  ⟨f, fd, fn_ok2 F sc_x_law_others_told hlen (fun cdv A outer s H E hr => j_x_law_others_told C_x_law_any C_x_law_times C_gcd C_x_law_is_list C_x_law_lowest C_divided C_x_law_common C_x_law_mix C_x_law_divided B Z hr) hT, hm, F.kp, F.binds fun _ _ _ _ _ _ us hl => match us, hl with | [_], _ => rfl⟩
/-! ### law -/
abbrev s_law : Stmt := topS 31
abbrev N_law : List Str := ["script", "draws"]
theorem sc_law : FnScope N_law ["script"] (defScope s_law) := ⟨rfl, rfl, rfl, by decide +kernel, rfl, by decide +kernel, by decide +kernel⟩
def T_law (g_x_law_draws : GD) (g_primitive : GD) (g_gcd : GD) (g_divided : GD) (g_x_law_powers_told : GD) (g_x_law_others_told : GD) : PTS :=
 (pSeq (pSetV 1 (fDef g_x_law_draws (fCons (fVarV 0) fNil)))
 (pSeq (pIf (fOr (fB (fBin oNe (fDef g_primitive (fCons (fL (fLst fNil)) fNil)) (fL (fLst fNil)))) (fOr (fB (fBin oNe (fDef g_gcd (fCons (fL (fLst fNil)) (fCons (fL (fLst fNil)) fNil))) (fL (fLst fNil)))) (fB (fBin oNe (fDef g_divided (fCons (fL (fLst fNil)) (fCons (fL (fLst (fCons (fC (.int 1)) (fCons (fC (.int 1)) fNil)))) fNil))) (fL (fLst fNil))))))
 (pRetV (fC (.bool false)))
 pNext)
 (pRetV (fAndV (fDef g_x_law_powers_told (fCons (fVarV 1) fNil)) (fDef g_x_law_others_told (fCons (fVarV 1) fNil))))))
theorem j_law {g_x_law_draws : GD} (C_x_law_draws : Callee P w K mg base 41 "_law_draws" ["script"] g_x_law_draws) {g_primitive : GD} (C_primitive : Callee P w K mg base 42 "primitive" ["one"] g_primitive) {g_gcd : GD} (C_gcd : Callee P w K mg base 44 "gcd" ["one", "two"] g_gcd) {g_divided : GD} (C_divided : Callee P w K mg base 41 "divided" ["one", "two"] g_divided) {g_x_law_powers_told : GD} (C_x_law_powers_told : CalleeG P w K mg base 46 "_law_powers_told" ["draws"] g_x_law_powers_told) {g_x_law_others_told : GD} (C_x_law_others_told : Callee P w K mg base 45 "_law_others_told" ["draws"] g_x_law_others_told) (B : Bi mg) (Z : Bz P base) {f : Addr} {cdv : Value} {A : Around} {outer : List Env} {s : Shared} {H : Hp} {E : XK} (hr : Room 46 (A.deeper (envOfC "law" (defScope s_law) s.heap.objs.size f cdv))) (hG : A.guards = some []) : ∃ t, JSs (cxOf CX0 P w K mg base N_law "law" (defScope s_law) f cdv A outer s H E).nox K (defBody s_law) t (T_law g_x_law_draws g_primitive g_gcd g_divided g_x_law_powers_told g_x_law_others_told) :=
 ⟨_, (jss_cons (js_setV 1 sc_law.nd (jv_d C_x_law_draws (hr.mono (by decide)) (by rfl) (ja_cons (jv_v 0) ja_nil)))
 (jss_cons (js_if (jw_or (jt_ne hr (jv_d C_primitive (hr.mono (by decide)) (by rfl) (ja_cons (jf_lst ja_nil).v ja_nil)) (jf_lst ja_nil).v) (jw_or (jt_ne hr (jv_d C_gcd (hr.mono (by decide)) (by rfl) (ja_cons (jf_lst ja_nil).v (ja_cons (jf_lst ja_nil).v ja_nil))) (jf_lst ja_nil).v) (jw_or1 (jt_ne hr (jv_d C_divided (hr.mono (by decide)) (by rfl) (ja_cons (jf_lst ja_nil).v (ja_cons (jf_lst (ja_cons jv_int (ja_cons jv_int ja_nil))).v ja_nil))) (jf_lst ja_nil).v)))).t (jss_one (js_retV jv_bl)) jss_nil)
 (jss_one (js_retV (jv_and (jv_dG C_x_law_powers_told (hr.mono (by decide)) hG (by rfl) (ja_cons (jv_v 1) ja_nil)) (jv_one (jv_d C_x_law_others_told (hr.mono (by decide)) (by rfl) (ja_cons (jv_v 1) ja_nil))))))))⟩
theorem c_law {g_x_law_draws : GD} (C_x_law_draws : Callee P w K mg base 41 "_law_draws" ["script"] g_x_law_draws) {g_primitive : GD} (C_primitive : Callee P w K mg base 42 "primitive" ["one"] g_primitive) {g_gcd : GD} (C_gcd : Callee P w K mg base 44 "gcd" ["one", "two"] g_gcd) {g_divided : GD} (C_divided : Callee P w K mg base 41 "divided" ["one", "two"] g_divided) {g_x_law_powers_told : GD} (C_x_law_powers_told : CalleeG P w K mg base 46 "_law_powers_told" ["draws"] g_x_law_powers_told) {g_x_law_others_told : GD} (C_x_law_others_told : Callee P w K mg base 45 "_law_others_told" ["draws"] g_x_law_others_told) (B : Bi mg) (Z : Bz P base) {f : Addr} {fd : FuncData} (F : Fun K "law" "law" s_law f fd) (hm : mg "law" = some (.ref f)) {gd : GD} (hlen : ∀ ds r, gd ds = some r → ds.length = 1)
  (hT : ∀ ds d b, gd ds = some (d, b) → T_law g_x_law_draws g_primitive g_gcd g_divided g_x_law_powers_told g_x_law_others_told (endsOf d b) (startE 2 ds)) : CalleeG P w K mg base 47 "law" ["script"] gd :=
  ⟨f, fd, fn_okG2 F sc_law hlen (fun cdv A outer s H E hr hG => j_law C_x_law_draws C_primitive C_gcd C_divided C_x_law_powers_told C_x_law_others_told B Z hr hG) hT, hm, F.kp, F.binds fun _ _ _ _ _ _ us hl => match us, hl with | [_], _ => rfl⟩
end
end K78

set_option Elab.async false
set_option linter.all false
set_option maxRecDepth 100000
set_option maxHeartbeats 4000000
set_option autoImplicit false
namespace K78
open PySem PD Pl L2
local macro_rules | `(tactic| walk_at "pd") => `(tactic| simp -implicitDefEqProofs only [pNext_, pSeq_, pDrop_, pSetV_, pSetF_, pSetG_, pPar_, pItem_, pApp_, pRetV_, pRetF_, pRetN_, pRet0_, pBreak_, pCont_, pIf_, endsOf_rt, endsOf_nx, fC_, fBin_, fUn_, fNil_, fCons_, fTup_, fLst_, fL_, fCall_, fIx_, fO0_, fAnd_, fOr_, fNot_, fIf_, fTru_, fDef_, fYes_, bN_, fVar_, fVarV_, fB_, fO1_, fSl_, fList_, fDefF_, iL_, fAndV_, fOrV_, iR1_, iR2_, iRev1_, dropE_nil, dropE_cons, drop1_, wipeE_nil, wipeE_cons, startE_,
  oI_, oB_, oAdd_, oSub_, oMul_, oDivZ_, oMod_, oPow_, oLt_, oLe_, oGt_, oGe_, oNeg_, oNot_, oIsN_, oEq_int, oNe_int, oAbs_, oInt_, oIntb_, oMax2_, oMin2_, oLen_, oLenT_, oIx_, oBits_, truI_, g1_, g2_, g3_, dInts_, dInt_, dAny_,
  List.getElem?_cons_zero, List.getElem?_cons_succ, List.set_cons_zero, List.set_cons_succ, Nat.zero_add, Nat.reduceAdd, Nat.reduceSub, List.replicate_succ, List.replicate_zero, Option.bind_some, Option.map_some, List.map_cons, List.map_nil, List.length_cons, List.length_nil, List.cons_append, List.nil_append, List.length_map, Option.some.injEq, exists_eq_left', Bool.false_eq_true, if_true, if_false, decide_true, decide_false, Bool.not_true, Bool.not_false, Bool.true_and, Bool.false_and, and_true, true_and])
theorem l24 : 10000000 ≤ line24 := by unfold line24; omega
theorem cutD_take (xs : List PyData) (m : Nat) (h : m ≤ xs.length) : cutD xs none (some (m : Int)) = xs.take m := by
  unfold cutD
  rw [HT.sIx_none, HT.sIx_nat]
  simp
def gTrimmed : GD := g1 dInts fun ns => some (ils (trim ns), true)
theorem w_trimmed (ds : List PyData) (d : PyData) (b : Bool) (h : gTrimmed ds = some (d, b)) : T_trimmed (endsOf d b) (startE 2 ds) := by
  obtain ⟨a, ns, rfl, h1, h2⟩ := g1_inv h
  cases dInts_eq h1
  cases h2
  unfold T_trimmed
  walk_at "pd"
  refine ⟨fun m env => m ≤ ns.length ∧ trimLen ns m = trimLen ns ns.length ∧ env = [some (ils ns, false), some (.int m, false)], ⟨ns.length, Nat.le_refl _, rfl, rfl⟩, ?_⟩
  rintro m env ⟨h1, h2, rfl⟩
  have fin : trimLen ns m = m → PyData.list (cutD (ns.map PyData.int) none (some (m : Int))) = ils (trim ns) := fun hm => by
    rw [cutD_take _ _ (by simpa using h1), ← List.map_take]
    unfold trim
    rw [← h2, hm]
  cases m with
  | zero =>
    refine ⟨false, by simp, ?_⟩
    have := fin rfl
    walk_at "pd"
    exact this
  | succ m =>
    have hix : atI (ns.map PyData.int) (m : Int) = some (PyData.int (ns.getD m 0)) := atI_ints (by omega)
    have e : ((m + 1 : Nat) : Int) - 1 = (m : Int) := by omega
    refine ⟨decide (ns.getD m 0 = 0), by simp [e, hix], ?_⟩
    split
    · rename_i hz
      have hz := of_decide_eq_true hz
      walk_at "pd"
      refine ⟨m, by omega, by omega, ?_, by rw [e]⟩
      rw [← h2, trimLen, if_pos hz]
    · rename_i hz
      have hz : ns.getD m 0 ≠ 0 := fun z => hz (decide_eq_true z)
      have := fin (by rw [trimLen, if_neg hz])
      walk_at "pd"
      exact this

/-- every item of a list written anew by place -/
theorem set_getD {l : List Int} {k : Nat} {x : Int} (j : Nat) (h : k < l.length) : (l.set k x).getD j 0 = if k = j then x else l.getD j 0 := by
  simp only [List.getD_eq_getElem?_getD, List.getElem?_set]
  split
  · rename_i e; subst e; simp [h]
  · rfl
theorem ints_set (l : List Int) (k : Nat) (x : Int) : (l.map PyData.int).set k (.int x) = (l.set k x).map PyData.int := by rw [List.map_set]
theorem ext_getD {l r : List Int} (h : l.length = r.length) (e : ∀ k, k < l.length → l.getD k 0 = r.getD k 0) : l = r := by
  apply List.ext_getElem h
  intro k h1 h2
  have := e k h1
  simpa [List.getD_eq_getElem?_getD, List.getElem?_eq_getElem h1, List.getElem?_eq_getElem h2] using this
theorem getD_ge {l : List Int} {k : Nat} (h : l.length ≤ k) : l.getD k 0 = 0 := by simp [List.getD_eq_getElem?_getD, List.getElem?_eq_none h]
theorem rep_ints (n : Nat) : (List.replicate n [PyData.int 0]).flatten = (List.replicate n (0 : Int)).map PyData.int := by
  induction n with
  | zero => rfl
  | succ n ih => rw [List.replicate_succ, List.flatten_cons, ih, List.replicate_succ]; rfl
theorem rep_getD (n k : Nat) : (List.replicate n (0 : Int)).getD k 0 = 0 := by
  simp only [List.getD_eq_getElem?_getD, List.getElem?_replicate]
  split <;> rfl
theorem mulL_zero {n : Nat} (hn : n ≤ 200000) : oMul (.list [.int 0]) (.int (n : Int)) = some (ils (List.replicate n 0)) := by
  have h24 := l24
  rw [oMulL_, if_pos ⟨by omega, by simp; omega, by omega⟩, Int.toNat_natCast, rep_ints]
theorem addL_ok {xs ys : List PyData} (h : xs.length + ys.length ≤ 10000000) : oAdd (.list xs) (.list ys) = some (.list (xs ++ ys)) := by
  have h24 := l24
  rw [oAddL_, if_pos (by omega)]
theorem fL01 {env : PEnv} : fL (fLst (fCons (fC (.int 0)) fNil)) env = some (.list [.int 0]) := by
  have h : fLst (fCons (fC (.int 0)) fNil) env = some [.int 0] := by
    simp only [fLst_, fCons_, fC_, fNil_, Option.bind_some, Option.map_some, List.length_cons, List.length_nil]
    rw [if_pos (by omega)]
  rw [fL_, h, Option.map_some]
theorem fRep_ok {env : PEnv} {f g : PEnv → Option PyData} {xs : List PyData} {k : Int} (hf : f env = some (.list xs)) (hg : g env = some (.int k)) (h : k < 1000000 ∧ xs.length * k.toNat ≤ line24 ∧ -1000000 ≤ k) :
    fRep f g env = some (List.replicate k.toNat xs).flatten := by
  rw [fRep_, hf, Option.bind_some, hg, Option.bind_some]
  exact if_pos h
theorem fRep_zero {env : PEnv} {f : PEnv → Option PyData} {M : Nat} (h : f env = some (.int M)) (hM : M ≤ 200000) : fRep (fL (fLst (fCons (fC (.int 0)) fNil))) f env = some ((List.replicate M (0 : Int)).map PyData.int) := by
  have h24 := l24
  rw [fRep_ok fL01 h ⟨by omega, by simp; omega, by omega⟩, Int.toNat_natCast, rep_ints]
theorem add_getD (p q : P) (k : Nat) : (add p q).getD k 0 = p.getD k 0 + q.getD k 0 := co_add p q k
def gPlus : GD := g2 dInts dInts fun p q => if p.length ≤ 100000 ∧ q.length ≤ 100000 then some (ils (trim (add p q)), true) else none
theorem iR1_len {env : PEnv} {f : PEnv → Option PyData} {n : Nat} (h : f env = some (.int (n : Int))) (hn : n ≤ 1000000) : iR1 (fCons f fNil) env = some (rangeD 0 n) := by
  rw [iR1_, fCons_, h]
  walk_at "pd"
  rw [if_pos ⟨by omega, by omega⟩]
  simp
theorem w_plus (ds : List PyData) (d : PyData) (b : Bool) (h : gPlus ds = some (d, b)) : T_plus gTrimmed (endsOf d b) (startE 5 ds) := by
  obtain ⟨_, _, p, q, rfl, h1, h2, h3⟩ := g2_inv h
  cases dInts_eq h1
  cases dInts_eq h2
  split at h3
  · rename_i hc
    cases h3
    obtain ⟨M, e1, e2⟩ : ∃ M : Nat, (if (q.length : Int) > (p.length : Int) then (q.length : Int) else (p.length : Int)) = (M : Int) ∧ M = max p.length q.length := by
      split
      · exact ⟨q.length, rfl, by omega⟩
      · exact ⟨p.length, rfl, by omega⟩
    unfold T_plus
    refine ⟨.int M, by walk_at "pd"; rw [e1], ?_⟩
    refine ⟨_, fRep_zero rfl (by omega), ?_⟩
    -- the first loop
    refine ⟨rangeD 0 p.length, iR1_len (by walk_at "pd") (by omega), fun i env => ∃ y l, env = [some (ils p, false), some (ils q, false), some (.int M, false), some (ils l, true), y] ∧ l.length = M ∧ ∀ k, k < M → l.getD k 0 = if k < i then p.getD k 0 else 0,
        ⟨none, _, rfl, by simp, fun k hk => by rw [rep_getD]; simp⟩, ?_, ?_⟩
    · rintro i _ env hd ⟨y, l, rfl, hl, hg⟩
      obtain ⟨hi, rfl⟩ := rangeD_get hd
      refine ⟨_, rfl, .int (p.getD i 0), _, _, i, ?_, rfl, rfl, ?_, ?_⟩
      · exact (by walk_at "pd"; rw [Int.zero_add, atI_ints hi])
      · rw [List.length_map, Int.zero_add]; exact ixN_nat (by omega)
      · refine ⟨_, l.set i (p.getD i 0), by walk_at "pd"; rw [ints_set], by simp [hl], fun k hk => ?_⟩
        rw [set_getD k (by omega)]
        have := hg k hk
        by_cases h1 : i = k
        · subst h1; simp
        · by_cases h2 : k < i
          · rw [if_neg h1, if_pos (by omega), this, if_pos h2]
          · rw [if_neg h1, if_neg (by omega), this, if_neg h2]
    · rintro env ⟨y, l, rfl, hl, hg⟩
      rw [rangeD_length] at hg
      have hl0 : ∀ k, k < M → l.getD k 0 = p.getD k 0 := fun k hk => by
        rw [hg k hk]
        split
        · rfl
        · rw [getD_ge (by omega)]
      refine ⟨rangeD 0 q.length, iR1_len (by walk_at "pd") (by omega), fun i env => ∃ y r, env = [some (ils p, false), some (ils q, false), some (.int M, false), some (ils r, true), y] ∧ r.length = M ∧ ∀ k, k < M → r.getD k 0 = if k < i then p.getD k 0 + q.getD k 0 else p.getD k 0,
          ⟨y, l, rfl, hl, fun k hk => by rw [hl0 k hk, if_neg (Nat.not_lt_zero k)]⟩, ?_, ?_⟩
      · rintro i _ env hd ⟨y, r, rfl, hr, hg⟩
        obtain ⟨hi, rfl⟩ := rangeD_get hd
        refine ⟨_, rfl, .int (r.getD i 0 + q.getD i 0), _, _, i, ?_, rfl, rfl, ?_, ?_⟩
        · exact (by walk_at "pd"; rw [Int.zero_add, atI_ints hi, atI_ints (by omega)]; rfl)
        · rw [List.length_map, Int.zero_add]; exact ixN_nat (by omega)
        · refine ⟨_, r.set i (r.getD i 0 + q.getD i 0), by walk_at "pd"; rw [ints_set], by simp [hr], fun k hk => ?_⟩
          rw [set_getD k (by omega)]
          have a1 := hg k hk
          have a2 := hg i (by omega)
          rw [if_neg (Nat.lt_irrefl i)] at a2
          by_cases h1 : i = k
          · subst h1; rw [if_pos rfl, if_pos (by omega), a2]
          · by_cases h2 : k < i
            · rw [if_neg h1, if_pos (by omega), a1, if_pos h2]
            · rw [if_neg h1, if_neg (by omega), a1, if_neg h2]
      · rintro env ⟨y, r, rfl, hr, hg⟩
        rw [rangeD_length] at hg
        have er : r = add p q := ext_getD (by rw [hr, add_length, e2]) fun k hk => by
          rw [hg k (by omega), add_getD]
          split
          · rfl
          · rw [getD_ge (l := q) (by omega)]; omega
        subst er
        refine ⟨(trim (add p q)).map PyData.int, ?_, rfl, rfl⟩
        walk_at "pd"
        simp only [gTrimmed, g1_, dInts_, Option.bind_some]
  · cases h3

/-! ### numbers of a size that may be multiplied -/
def big : Nat := 60000000
def Sm (n : Int) : Prop := n.natAbs < 2 ^ big
theorem mul_sm {i j : Int} (h1 : Sm i) (h2 : Sm j) : mulOk i j = true := by
  unfold mulOk
  exact decide_eq_true (L2.mulx_ok h1 h2 (by unfold big; omega))
def SmL (p : P) : Prop := ∀ n ∈ p, Sm n
open Classical in
noncomputable def gScaled : GD := g2 dInts dInt fun p c => if p.length ≤ 100000 ∧ SmL p ∧ Sm c then some (ils (if c = 0 then [] else smul c p), true) else none
theorem w_scaled (ds : List PyData) (d : PyData) (b : Bool) (h : gScaled ds = some (d, b)) : T_scaled (endsOf d b) (startE 3 ds) := by
  obtain ⟨_, _, p, c, rfl, h1, h2, h3⟩ := g2_inv h
  cases dInts_eq h1
  cases dInt_eq h2
  split at h3
  · rename_i hc
    obtain ⟨hl, hp, hc⟩ := hc
    cases h3
    unfold T_scaled
    refine ⟨decide (c = 0), by walk_at "pd", ?_⟩
    by_cases hz : c = 0
    · rw [if_pos (decide_eq_true hz)]
      exact ⟨[], rfl, by rw [if_pos hz]; rfl, rfl⟩
    · rw [if_neg (by simpa using hz), if_neg hz]
      refine ⟨(smul c p).map PyData.int, ?_, rfl, rfl⟩
      unfold fComp
      walk_at "pd"
      rw [if_pos (by omega), compL_all (fun d => match d with | .int n => .int (c * n) | _ => .none)]
      · simp [smul]
      · intro d hd
        obtain ⟨n, hn, rfl⟩ := List.mem_map.mp hd
        refine ⟨_, rfl, ?_⟩
        walk_at "pd"
        rw [if_pos (mul_sm hc (hp n hn))]
  · cases h3
def gRaised : GD := g2 dInts dInt fun p k => if p.length ≤ 100000 ∧ 0 ≤ k ∧ k ≤ 100000 then some (ils (if p = [] then [] else shift k.toNat p), decide (p = [])) else none
theorem w_raised (ds : List PyData) (d : PyData) (b : Bool) (h : gRaised ds = some (d, b)) : T_raised (endsOf d b) (startE 2 ds) := by
  obtain ⟨_, _, p, k, rfl, h1, h2, h3⟩ := g2_inv h
  cases dInts_eq h1
  cases dInt_eq h2
  split at h3
  · rename_i hc
    cases h3
    obtain ⟨n, rfl⟩ : ∃ n : Nat, k = (n : Int) := ⟨k.toNat, by omega⟩
    have h24 := l24
    unfold T_raised
    refine ⟨decide ((p.length : Int) = 0), by walk_at "pd", ?_⟩
    by_cases hz : p = []
    · subst hz
      exact ⟨[], rfl, rfl, rfl⟩
    · have hl : 0 < p.length := List.length_pos_iff.mpr hz
      rw [if_neg (by simp; omega), if_neg hz]
      refine ⟨ils (shift n p), ?_, rfl, (decide_eq_false hz).symm⟩
      rw [fBin_, fBin_, fL01, Option.bind_some]
      walk_at "pd"
      rw [mulL_zero (by omega), Option.bind_some, addL_ok (by simp; omega)]
      simp [shift]
  · cases h3
end K78

set_option Elab.async false
set_option linter.all false
set_option maxRecDepth 100000
set_option maxHeartbeats 4000000
set_option autoImplicit false
namespace K78
open PySem PD Pl L2
local macro_rules | `(tactic| walk_at "pd") => `(tactic| simp -implicitDefEqProofs only [pNext_, pSeq_, pDrop_, pSetV_, pSetF_, pSetG_, pPar_, pItem_, pApp_, pRetV_, pRetF_, pRetN_, pRet0_, pBreak_, pCont_, pIf_, endsOf_rt, endsOf_nx, fC_, fBin_, fUn_, fNil_, fCons_, fTup_, fLst_, fL_, fCall_, fIx_, fO0_, fAnd_, fOr_, fNot_, fIf_, fTru_, fDef_, fYes_, bN_, fVar_, fVarV_, fB_, fO1_, fSl_, fList_, fDefF_, iL_, fAndV_, fOrV_, iR1_, iR2_, iRev1_, dropE_nil, dropE_cons, drop1_, wipeE_nil, wipeE_cons, startE_,
  oI_, oB_, oAdd_, oSub_, oMul_, oDivZ_, oMod_, oPow_, oLt_, oLe_, oGt_, oGe_, oNeg_, oNot_, oIsN_, oEq_int, oNe_int, oAbs_, oInt_, oIntb_, oMax2_, oMin2_, oLen_, oLenT_, oIx_, oBits_, truI_, g1_, g2_, g3_, dInts_, dInt_, dAny_,
  List.getElem?_cons_zero, List.getElem?_cons_succ, List.set_cons_zero, List.set_cons_succ, Nat.zero_add, Nat.reduceAdd, Nat.reduceSub, List.replicate_succ, List.replicate_zero, Option.bind_some, Option.map_some, List.map_cons, List.map_nil, List.length_cons, List.length_nil, List.cons_append, List.nil_append, List.length_map, Option.some.injEq, exists_eq_left', Bool.false_eq_true, if_true, if_false, decide_true, decide_false, Bool.not_true, Bool.not_false, Bool.true_and, Bool.false_and, and_true, true_and])
/-! ### common_divisor -/
def gCd : GD := g2 dInt dInt fun a b => some (.int (Int.gcd a b), false)
theorem w_common_divisor (ds : List PyData) (d : PyData) (b : Bool) (h : gCd ds = some (d, b)) : T_common_divisor (endsOf d b) (startE 2 ds) := by
  obtain ⟨_, _, a, b, rfl, h1, h2, h3⟩ := g2_inv h
  cases dInt_eq h1
  cases dInt_eq h2
  cases h3
  have ea : ∀ a : Int, (if a < 0 then -a else a) = (a.natAbs : Int) := fun a => by split <;> omega
  unfold T_common_divisor
  walk_at "pd"
  rw [ea, ea]
  refine ⟨fun m env => ∃ x y : Nat, env = [some (.int x, false), some (.int y, false)] ∧ y = m ∧ Nat.gcd x y = Int.gcd a b, ⟨b.natAbs, a.natAbs, b.natAbs, rfl, rfl, rfl⟩, ?_⟩
  rintro m _ ⟨x, y, rfl, rfl, hg⟩
  refine ⟨((y : Int) != 0), by walk_at "pd", ?_⟩
  by_cases hz : y = 0
  · subst hz
    rw [if_neg (by simp)]
    walk_at "pd"
    refine ⟨_, _, rfl, ?_, rfl⟩
    rw [Nat.gcd_zero_right] at hg
    rw [hg]
  · rw [if_pos (by simp; omega)]
    walk_at "pd"
    refine ⟨.int y, .int ((x % y : Nat) : Int), ?_, _, Nat.mod_lt x (by omega), y, x % y, rfl, rfl, ?_⟩
    · rw [if_neg (by omega), Int.fmod_eq_emod_of_nonneg _ (by omega)]
      rfl
    · rw [← hg, Nat.gcd_comm x y]
      conv => rhs; rw [Nat.gcd_rec]
      rw [Nat.gcd_comm]
/-! ### primitive -/
theorem lc_last (p : P) : p.getLastD 0 = lc p := rfl
def gPrim : GD := g1 dInts fun p => if p.length ≤ 100000 then some (ils (prim p), true) else none
theorem comp_div {p : P} {c : Int} (hc : c ≠ 0) (hl : p.length ≤ 100000) : fComp [2] (iL (fVarV 0)) (bN 2) fYes (fBin oDivZ (fVarV 2) (fVarV 1)) [some (ils p, false), some (.int c, false), none] = some ((p.map fun n => n.fdiv c).map PyData.int) := by
  unfold fComp
  walk_at "pd"
  rw [if_pos (by omega), compL_all (fun d => match d with | .int n => .int (n.fdiv c) | _ => .none)]
  · simp
  · intro d hd
    obtain ⟨n, hn, rfl⟩ := List.mem_map.mp hd
    refine ⟨_, rfl, ?_⟩
    walk_at "pd"
    rw [if_neg hc]
theorem comp_div' {p : P} {c : Int} {y : Option (PyData × Bool)} (hc : c ≠ 0) (hl : p.length ≤ 100000) : fComp [2] (iL (fVarV 0)) (bN 2) fYes (fBin oDivZ (fVarV 2) (fVarV 1)) [some (ils p, false), some (.int c, false), y] = some ((p.map fun n => n.fdiv c).map PyData.int) := comp_div hc hl
theorem w_primitive (ds : List PyData) (d : PyData) (b : Bool) (h : gPrim ds = some (d, b)) : T_primitive gCd (endsOf d b) (startE 3 ds) := by
  obtain ⟨_, p, rfl, h1, h3⟩ := g1_inv h
  cases dInts_eq h1
  split at h3
  · rename_i hl
    cases h3
    unfold T_primitive
    walk_at "pd"
    refine ⟨p.map PyData.int, rfl, fun i env => ∃ c y, env = [some (ils p, false), some (.int c, false), y] ∧ contentFrom c (p.drop i) = content p, ⟨0, none, rfl, by rw [List.drop_zero]; rfl⟩, ?_, ?_⟩
    · rintro i d _ hd ⟨c, y, rfl, hc⟩
      rw [List.getElem?_map] at hd
      obtain ⟨n, hn, rfl⟩ := Option.map_eq_some_iff.mp hd
      obtain ⟨hi, hn⟩ := List.getElem?_eq_some_iff.mp hn
      refine ⟨_, rfl, ?_⟩
      walk_at "pd"
      refine ⟨_, by simp only [gCd, g2_, dInt_, Option.bind_some, Option.map_some], Int.gcd c n, _, rfl, ?_⟩
      rw [← hc, List.drop_eq_getElem_cons hi, hn]; rfl
    · rintro _ ⟨c, y, rfl, hc⟩
      rw [List.length_map, List.drop_length] at hc
      change c = content p at hc
      subst hc
      walk_at "pd"
      by_cases hz : content p = 0
      · rw [if_pos (decide_eq_true hz)]
        exact ⟨[], rfl, by unfold prim; rw [if_pos hz]; rfl⟩
      · rw [if_neg (by simpa using hz)]
        have hp : p ≠ [] := fun z => hz (by subst z; rfl)
        refine ⟨decide (lc p < 0), by rw [atI_neg hp]; walk_at "pd"; rfl, ?_⟩
        by_cases hn : lc p < 0
        · rw [if_pos (decide_eq_true hn)]
          refine ⟨_, comp_div' (by omega) hl, ?_⟩
          unfold prim
          rw [if_neg hz, if_pos hn]
        · rw [if_neg (by simpa using hn)]
          refine ⟨_, comp_div' hz hl, ?_⟩
          unfold prim
          rw [if_neg hz, if_neg hn]
  · cases h3
end K78

set_option Elab.async false
set_option linter.all false
set_option maxRecDepth 100000
set_option maxHeartbeats 4000000
set_option autoImplicit false
namespace K78
open PySem PD Pl L2
local macro_rules | `(tactic| walk_at "pd") => `(tactic| simp -implicitDefEqProofs only [pNext_, pSeq_, pDrop_, pSetV_, pSetF_, pSetG_, pPar_, pItem_, pApp_, pRetV_, pRetF_, pRetN_, pRet0_, pBreak_, pCont_, pIf_, endsOf_rt, endsOf_nx, fC_, fBin_, fUn_, fNil_, fCons_, fTup_, fLst_, fL_, fCall_, fIx_, fO0_, fAnd_, fOr_, fNot_, fIf_, fTru_, fDef_, fYes_, bN_, fVar_, fVarV_, fB_, fO1_, fSl_, fList_, fDefF_, iL_, fAndV_, fOrV_, iR1_, iR2_, iRev1_, dropE_nil, dropE_cons, drop1_, wipeE_nil, wipeE_cons, startE_,
  oI_, oB_, oAdd_, oSub_, oMul_, oDivZ_, oMod_, oPow_, oLt_, oLe_, oGt_, oGe_, oNeg_, oNot_, oIsN_, oEq_int, oNe_int, oAbs_, oInt_, oIntb_, oMax2_, oMin2_, oLen_, oLenT_, oIx_, oBits_, truI_, g1_, g2_, g3_, dInts_, dInt_, dAny_,
  List.getElem?_cons_zero, List.getElem?_cons_succ, List.set_cons_zero, List.set_cons_succ, Nat.zero_add, Nat.reduceAdd, Nat.reduceSub, List.replicate_succ, List.replicate_zero, Option.bind_some, Option.map_some, List.map_cons, List.map_nil, List.length_cons, List.length_nil, List.cons_append, List.nil_append, List.length_map, Option.some.injEq, exists_eq_left', Bool.false_eq_true, if_true, if_false, decide_true, decide_false, Bool.not_true, Bool.not_false, Bool.true_and, Bool.false_and, and_true, true_and])
theorem gPrim_ {p : P} (h : p.length ≤ 100000) : gPrim [ils p] = some (ils (prim p), true) := by
  simp only [gPrim, g1_, dInts_, Option.bind_some, if_pos h]
theorem gTrimmed_ {p : P} : gTrimmed [ils p] = some (ils (trim p), true) := by
  simp only [gTrimmed, g1_, dInts_, Option.bind_some]
theorem gPlus_ {p q : P} (h1 : p.length ≤ 100000) (h2 : q.length ≤ 100000) : gPlus [ils p, ils q] = some (ils (trim (add p q)), true) := by
  simp only [gPlus, g2_, dInts_, Option.bind_some]
  rw [if_pos ⟨h1, h2⟩]
theorem gScaled_ {p : P} {c : Int} (h1 : p.length ≤ 100000) (h2 : SmL p) (h3 : Sm c) (hc : c ≠ 0) : gScaled [ils p, .int c] = some (ils (smul c p), true) := by
  simp only [gScaled, g2_, dInts_, dInt_, Option.bind_some]
  rw [if_pos ⟨h1, h2, h3⟩, if_neg hc]
theorem gRaised_ {p : P} {k : Nat} (h1 : p.length ≤ 100000) (hk : k ≤ 100000) (hp : p ≠ []) : gRaised [ils p, .int (k : Int)] = some (ils (shift k p), false) := by
  simp only [gRaised, g2_, dInts_, dInt_, Option.bind_some]
  rw [if_pos ⟨h1, by omega, by omega⟩, if_neg hp, decide_eq_false hp, Int.toNat_natCast]
theorem sm_of {n : Int} {e : Nat} (h : n.natAbs ≤ 2 ^ e) (he : e < big) : Sm n := Nat.lt_of_le_of_lt h (Nat.pow_lt_pow_right (by omega) he)
theorem sml_of {p : P} {e : Nat} (h : Bd p (2 ^ e)) (he : e < big) : SmL p := fun n hn => by
  obtain ⟨k, hk, rfl⟩ := List.getElem_of_mem hn
  have := h k
  rw [co_lt hk] at this
  exact sm_of this he
/-! ### remainder -/
def okRem (a t : P) : Prop := (a = [] ∨ Low a) ∧ Low t ∧ a.length ≤ 1000 ∧ t.length ≤ 1000 ∧ ∃ s, Bd a (2 ^ s) ∧ Bd t (2 ^ s) ∧ (s + 1) * (a.length + 2) ≤ big
open Classical in
noncomputable def gRem : GD := g2 dInts dInts fun a t => if okRem a t then some (ils (rem a t), true) else none
theorem gRem_ {a t : P} (h : okRem a t) : gRem [ils a, ils t] = some (ils (rem a t), true) := by
  simp only [gRem, g2_, dInts_, Option.bind_some, if_pos h]
theorem w_remainder (ds : List PyData) (d : PyData) (b : Bool) (h : gRem ds = some (d, b)) : T_remainder gPrim gRaised gScaled gPlus (endsOf d b) (startE 4 ds) := by
  obtain ⟨_, _, a, t, rfl, h1, h2, h3⟩ := g2_inv h
  cases dInts_eq h1
  cases dInts_eq h2
  split at h3
  · rename_i hc
    obtain ⟨ha, ht, la, lt, s, ba, bt, hs⟩ := hc
    cases h3
    have pt : 0 < t.length := List.length_pos_iff.mpr ht.ne
    have hs2 : s + (s + 1) * a.length + 2 ≤ big ∧ s < big := by
      have : (s + 1) * (a.length + 2) = (s + 1) * a.length + (s + 1) * 2 := Nat.mul_add _ _ _
      omega
    unfold T_remainder
    walk_at "pd"
    refine ⟨a.map PyData.int, by rw [gPrim_ (by omega), prim_own ha]; rfl, ?_⟩
    refine ⟨fun m env => ∃ l y n e, env = [some (ils a, false), some (ils t, false), some (ils l, true), y] ∧ l.length = m ∧ (l = [] ∨ Low l) ∧ l.length < n ∧ remGo n l t = rem a t ∧ Bd l (2 ^ e) ∧ e + (s + 1) * l.length ≤ s + (s + 1) * a.length,
      ⟨a.length, a, none, a.length + 1, s, rfl, rfl, ha, by omega, by unfold rem; rw [prim_own ha], ba, Nat.le_refl _⟩, ?_⟩
    rintro m _ ⟨l, y, n, e, rfl, rfl, hl, hn, hg, bl, he⟩
    refine ⟨decide ((t.length : Int) ≤ (l.length : Int)), by walk_at "pd", ?_⟩
    by_cases hle : t.length ≤ l.length
    · rw [if_pos (decide_eq_true (by omega))]
      have lne : l ≠ [] := fun z => by have := congrArg List.length z; rw [List.length_nil] at this; omega
      have ll : Low l := by
        rcases hl with z | z
        · exact absurd z lne
        · exact z
      obtain ⟨r1, r2, r3, _⟩ := remStep_spec lne ht.ne hle
      have hll : l.length ≤ a.length := by
        have h1 : (s + 1) * l.length ≤ (s + 1) * a.length + s := by omega
        have : ¬ a.length + 1 ≤ l.length := fun z => by
          have := Nat.mul_le_mul_left (s + 1) z
          rw [Nat.mul_add] at this
          omega
        omega
      have heb : e < big := by omega
      have sl : Sm (lc l) := sm_of bl.lc heb
      have snl : Sm (-(lc l)) := by unfold Sm at sl ⊢; omega
      have st : Sm (lc t) := sm_of bt.lc hs2.2
      have e1 : (l.length : Int) - (t.length : Int) = ((l.length - t.length : Nat) : Int) := by omega
      have g1 : gScaled [ils t, .int (-(lc l))] = some (ils (smul (-(lc l)) t), true) := gScaled_ (by omega) (sml_of bt hs2.2) snl (by have := ll.pos; omega)
      have g2 : gRaised [ils (smul (-(lc l)) t), .int ((l.length - t.length : Nat) : Int)] = some (ils (shift (l.length - t.length) (smul (-(lc l)) t)), false) := gRaised_ (by rw [smul_length]; omega) (by omega) (fun z => by
        have := congrArg List.length z
        rw [smul_length, List.length_nil] at this
        omega)
      have g3 : gScaled [ils l, .int (lc t)] = some (ils (smul (lc t) l), true) := gScaled_ (by omega) (sml_of bl heb) st (by have := ht.pos; omega)
      have g4 : gPlus [ils (smul (lc t) l), ils (shift (l.length - t.length) (smul (-(lc l)) t))] = some (ils (trim (add (smul (lc t) l) (shift (l.length - t.length) (smul (-(lc l)) t)))), true) := gPlus_ (by rw [smul_length]; omega) (by rw [shift_length, smul_length]; omega)
      have g5 : gPrim [ils (trim (add (smul (lc t) l) (shift (l.length - t.length) (smul (-(lc l)) t))))] = some (ils (remStep l t), true) := gPrim_ (by
        have := trim_length_le (add (smul (lc t) l) (shift (l.length - t.length) (smul (-(lc l)) t)))
        rw [add_length, smul_length, shift_length, smul_length] at this
        omega)
      walk_at "pd"
      refine ⟨ils (shift (l.length - t.length) (smul (-(lc l)) t)), ?_, (remStep l t).map PyData.int, ?_, ?_⟩
      · rw [atI_neg lne]
        walk_at "pd"
        rw [lc_last, g1, e1]
        walk_at "pd"
        rw [g2]
        rfl
      · rw [atI_neg ht.ne]
        walk_at "pd"
        rw [lc_last, g3]
        walk_at "pd"
        rw [g4]
        walk_at "pd"
        rw [g5]
        rfl
      · cases n with
        | zero => omega
        | succ n =>
          rw [remGo_go hle] at hg
          refine ⟨_, r2, remStep l t, _, n, e + s + 1, rfl, rfl, r3, by omega, hg, bl.remStep bt, ?_⟩
          have h4 : (s + 1) * ((remStep l t).length + 1) ≤ (s + 1) * l.length := Nat.mul_le_mul_left _ r2
          have h5 : (s + 1) * ((remStep l t).length + 1) = (s + 1) * (remStep l t).length + (s + 1) := Nat.mul_succ _ _
          rw [h5] at h4
          generalize (s + 1) * (remStep l t).length = u at h4 ⊢
          generalize (s + 1) * l.length = v at h4 he
          generalize (s + 1) * a.length = w at he ⊢
          omega
    · rw [if_neg (by simp; omega)]
      walk_at "pd"
      rw [remGo_stop (by omega)] at hg
      subst hg
      exact ⟨_, _, rfl, rfl, rfl⟩
  · cases h3
end K78

set_option Elab.async false
set_option linter.all false
set_option maxRecDepth 100000
set_option maxHeartbeats 4000000
set_option autoImplicit false
namespace K78
open PySem PD Pl L2
local macro_rules | `(tactic| walk_at "pd") => `(tactic| simp -implicitDefEqProofs only [pNext_, pSeq_, pDrop_, pMove_, pYoung_, fWhole_, fShort_, pSetV_, pSetF_, pSetG_, pPar_, pItem_, pApp_, pRetV_, pRetF_, pRetN_, pRet0_, pBreak_, pCont_, pIf_, endsOf_rt, endsOf_nx, fC_, fBin_, fUn_, fNil_, fCons_, fTup_, fLst_, fL_, fCall_, fIx_, fO0_, fAnd_, fOr_, fNot_, fIf_, fTru_, fDef_, fYes_, bN_, fVar_, fVarV_, fB_, fO1_, fSl_, fList_, fDefF_, ints?_map, iL_, fAndV_, fOrV_, iR1_, iR2_, iRev1_, dropE_nil, dropE_cons, drop1_, wipeE_nil, wipeE_cons, startE_,
  oI_, oB_, oAdd_, oSub_, oMul_, oDivZ_, oMod_, oPow_, oLt_, oLe_, oGt_, oGe_, oNeg_, oNot_, oIsN_, oEq_int, oNe_int, oAbs_, oInt_, oIntb_, oMax2_, oMin2_, oLen_, oLenT_, oIx_, oBits_, truI_, g1_, g2_, g3_, dInts_, dInt_, dAny_,
  List.getElem?_cons_zero, List.getElem?_cons_succ, List.set_cons_zero, List.set_cons_succ, Nat.zero_add, Nat.reduceAdd, Nat.reduceSub, List.replicate_succ, List.replicate_zero, Option.bind_some, Option.map_some, List.map_cons, List.map_nil, List.length_cons, List.length_nil, List.cons_append, List.nil_append, List.length_map, Option.some.injEq, exists_eq_left', Bool.false_eq_true, if_true, if_false, decide_true, decide_false, Bool.not_true, Bool.not_false, Bool.true_and, Bool.false_and, and_true, true_and])
/-! ### gcd -/
def okGcd (a b : P) : Prop := Tr a ∧ Tr b ∧ ∃ N c, a.length ≤ N ∧ b.length ≤ N ∧ N ≤ 1000 ∧ Bd a (2 ^ c) ∧ Bd b (2 ^ c) ∧ ((c + 12) * (2 * N) + c + 1) * (N + 2) ≤ big
open Classical in
noncomputable def gGcd : GD := g2 dInts dInts fun a b => if okGcd a b then some (ils (gcdP a b), true) else none
theorem gGcd_ {a b : P} (h : okGcd a b) : gGcd [ils a, ils b] = some (ils (gcdP a b), true) := by
  simp only [gGcd, g2_, dInts_, Option.bind_some, if_pos h]
theorem prim_or {p : P} (tp : Tr p) : prim p = [] ∨ Low (prim p) := by
  by_cases hp : p = []
  · left; rw [hp, prim_nil]
  · obtain ⟨_, _, _, _, h⟩ := prim_spec tp hp; exact .inr h
theorem w_gcd (ds : List PyData) (d : PyData) (b : Bool) (h : gGcd ds = some (d, b)) : T_gcd gPrim gRem (endsOf d b) (startE 2 ds) := by
  obtain ⟨_, _, a, t, rfl, h1, h2, h3⟩ := g2_inv h
  cases dInts_eq h1
  cases dInts_eq h2
  split at h3
  · rename_i hc
    obtain ⟨ta, tt, N, c, la, lt, hN, ba, bt, hs⟩ := hc
    cases h3
    obtain ⟨s, hsd⟩ : ∃ s, s = (c + 12) * (2 * N) := ⟨_, rfl⟩
    -- a bound that is met from the first
    obtain ⟨s', hs', hcs, hss⟩ : ∃ s', (s' + 1) * (N + 2) ≤ big ∧ c ≤ s' ∧ s ≤ s' := ⟨s + c, by rw [hsd]; exact hs, by omega, by omega⟩
    have lp := prim_or ta
    have lq := prim_or tt
    have np : (prim a).length ≤ N := by rw [prim_length a ta]; exact la
    have nq : (prim t).length ≤ N := by rw [prim_length t tt]; exact lt
    have bp : Bd (prim a) (2 ^ c) := ba.prim ta
    have bq : Bd (prim t) (2 ^ c) := bt.prim tt
    have up : 2 ^ c ≤ 2 ^ s' := Nat.pow_le_pow_right (by omega) hcs
    unfold T_gcd
    walk_at "pd"
    refine ⟨(prim a).map PyData.int, by rw [gPrim_ (by omega)]; rfl, (prim t).map PyData.int, by rw [gPrim_ (by omega)]; rfl, ?_⟩
    refine ⟨fun m env => ∃ r1 r2 n, env = [some (ils r1, true), some (ils r2, true)] ∧ r2.length = m ∧ GS (prim a) (prim t) N s' r1 r2 ∧ r2.length < n ∧ gcdGo n r1 r2 = gcdP a t,
      ⟨(prim t).length, prim a, prim t, t.length + 1, rfl, rfl, ⟨lp, lq, bp.mono up, bq.mono up, np, nq, .inl ⟨rfl, rfl⟩⟩, by rw [prim_length t tt]; omega, rfl⟩, ?_⟩
    rintro m _ ⟨r1, r2, n, rfl, rfl, G, hn, hg⟩
    refine ⟨decide ((0 : Int) < (r2.length : Int)), by walk_at "pd", ?_⟩
    by_cases hz : r2 = []
    · rw [if_neg (by rw [hz]; simp)]
      walk_at "pd"
      refine ⟨_, _, rfl, ?_, rfl⟩
      cases n with
      | zero => omega
      | succ n =>
        rw [gcdGo, if_pos hz] at hg
        rw [hg]
    · have pl : 0 < r2.length := List.length_pos_iff.mpr hz
      rw [if_pos (decide_eq_true (by omega))]
      have l2 : Low r2 := by
        rcases G.l2 with z | z
        · exact absurd z hz
        · exact z
      have ok : okRem r1 r2 := ⟨G.l1, l2, by have := G.n1; omega, by have := G.n2; omega, s', G.b1, G.b2, Nat.le_trans (Nat.mul_le_mul_left _ (by have := G.n1; omega)) hs'⟩
      have G' := GS.next (s := s') (c := c) hN (by omega) lp lq np nq bp bq G hz
      · walk_at "pd"
        refine ⟨r2.map PyData.int, (rem r1 r2).map PyData.int, rfl, ?_, ?_⟩
        · rw [gRem_ ok]
          walk_at "pd"
        · cases n with
          | zero => omega
          | succ n =>
            rw [gcdGo, if_neg hz] at hg
            exact ⟨_, G'.2, r2, rem r1 r2, n, rfl, rfl, G'.1, by omega, hg⟩
  · cases h3
end K78

set_option Elab.async false
set_option linter.all false
set_option maxRecDepth 100000
set_option maxHeartbeats 4000000
set_option autoImplicit false
namespace K78
open PySem PD Pl L2
local macro_rules | `(tactic| walk_at "pd") => `(tactic| simp -implicitDefEqProofs only [pNext_, pSeq_, pDrop_, pMove_, pYoung_, fWhole_, fShort_, pSetV_, pSetF_, pSetG_, pPar_, pItem_, pApp_, pRetV_, pRetF_, pRetN_, pRet0_, pBreak_, pCont_, pIf_, endsOf_rt, endsOf_nx, fC_, fBin_, fUn_, fNil_, fCons_, fTup_, fLst_, fL_, fCall_, fIx_, fO0_, fAnd_, fOr_, fNot_, fIf_, fTru_, fDef_, fYes_, bN_, fVar_, fVarV_, fB_, fO1_, fSl_, fList_, fDefF_, ints?_map, iL_, fAndV_, fOrV_, iR1_, iR2_, iRev1_, dropE_nil, dropE_cons, drop1_, wipeE_nil, wipeE_cons, startE_,
  oI_, oB_, oAdd_, oSub_, oMul_, oDivZ_, oMod_, oPow_, oLt_, oLe_, oGt_, oGe_, oNeg_, oNot_, oIsN_, oEq_int, oNe_int, oAbs_, oInt_, oIntb_, oMax2_, oMin2_, oLen_, oLenT_, oIx_, oBits_, truI_, g1_, g2_, g3_, dInts_, dInt_, dAny_,
  List.getElem?_cons_zero, List.getElem?_cons_succ, List.set_cons_zero, List.set_cons_succ, Nat.zero_add, Nat.reduceAdd, Nat.reduceSub, List.replicate_succ, List.replicate_zero, Option.bind_some, Option.map_some, List.map_cons, List.map_nil, List.length_cons, List.length_nil, List.cons_append, List.nil_append, List.length_map, Option.some.injEq, exists_eq_left', Bool.false_eq_true, if_true, if_false, decide_true, decide_false, Bool.not_true, Bool.not_false, Bool.true_and, Bool.false_and, and_true, true_and])
/-! ### divided -/
def okDiv (a t : P) : Prop := Tr a ∧ Tr t ∧ t ≠ [] ∧ a.length ≤ 1000 ∧ t.length ≤ 1000 ∧ ∃ s, Bd a (2 ^ s) ∧ Bd t (2 ^ s) ∧ (s + 1) * (a.length + 2) ≤ big
def optD : Option P → PyData × Bool
  | some q => (ils q, true)
  | none => (.none, false)
open Classical in
noncomputable def gDiv : GD := g2 dInts dInts fun a t => if okDiv a t then some (optD (quo a t)) else none
theorem gDiv_ {a t : P} (h : okDiv a t) : gDiv [ils a, ils t] = some (optD (quo a t)) := by
  simp only [gDiv, g2_, dInts_, Option.bind_some, if_pos h]
theorem bools?_map : ∀ bs : List Bool, bools? (bs.map PyData.bool) = some bs
  | [] => rfl
  | a :: r => by simp [bools?, bools?_map r]
theorem max0_len {n m : Nat} : (if ((n : Int) - (m : Int) + 1) > 0 then ((n : Int) - (m : Int) + 1) else 0) = ((n + 1 - m : Nat) : Int) := by split <;> omega
theorem iRev1_len {env : PEnv} {f : PEnv → Option PyData} {n : Nat} (h : f env = some (.int (n : Int))) (hn : n ≤ 1000000) : iRev1 f env = some ((List.range n).map fun (k : Nat) => PyData.int ((n : Int) - 1 - k)) := by
  rw [iRev1_, h, Option.bind_some]
  exact (if_pos ⟨by omega, by omega⟩).trans (by simp)
theorem down_get {n i : Nat} {d : PyData} (h : ((List.range n).map fun (k : Nat) => PyData.int ((n : Int) - 1 - k))[i]? = some d) : i < n ∧ d = .int ((n - 1 - i : Nat) : Int) := by
  rw [List.getElem?_map] at h
  obtain ⟨k, h1, rfl⟩ := Option.map_eq_some_iff.mp h
  obtain ⟨hl, h2⟩ := List.getElem?_eq_some_iff.mp h1
  rw [List.getElem_range] at h2
  subst h2
  rw [List.length_range] at hl
  exact ⟨hl, by congr 1; omega⟩
theorem co_getD (p : P) (k : Nat) : p.getD k 0 = co p k := rfl
theorem getD_set_self {l : P} {k : Nat} {v : Int} (h : k < l.length) : (l.set k v).getD k 0 = v := by
  simp [List.getD_eq_getElem?_getD, h]
theorem any_zero (l : P) : (l.map fun n => !decide (n = 0)).any id = false ↔ ∀ k, co l k = 0 := by
  constructor
  · intro h k
    by_cases hk : k < l.length
    · rw [co_lt hk]
      have := List.any_eq_false.mp h (!decide (l[k] = 0)) (List.mem_map.mpr ⟨l[k], List.getElem_mem hk, rfl⟩)
      simpa using this
    · exact co_ge (by omega)
  · intro h
    rw [List.any_eq_false]
    intro b hb
    obtain ⟨n, hn, rfl⟩ := List.mem_map.mp hb
    obtain ⟨k, hk, rfl⟩ := List.getElem_of_mem hn
    have := h k
    rw [co_lt hk] at this
    simp [this]
theorem w_divided (ds : List PyData) (d : PyData) (b : Bool) (h : gDiv ds = some (d, b)) : T_divided (endsOf d b) (startE 8 ds) := by
  obtain ⟨_, _, a, t, rfl, h1, h2, h3⟩ := g2_inv h
  cases dInts_eq h1
  cases dInts_eq h2
  split at h3
  · rename_i hc
    obtain ⟨ta, tt, nt, la, lt, s, ba, bt, hs⟩ := hc
    have h3 := Option.some.inj h3
    have pt : 0 < t.length := List.length_pos_iff.mpr nt
    obtain ⟨n, hn⟩ : ∃ n, n = a.length + 1 - t.length := ⟨_, rfl⟩
    have hsz : ∀ i, i ≤ n → s + i * (s + 1) < big := fun i hi => by
      have h1 : (s + 1) * (a.length + 2) = (s + 1) * (a.length + 1) + (s + 1) := Nat.mul_succ _ _
      have h2 : i * (s + 1) ≤ (s + 1) * (a.length + 1) := by rw [Nat.mul_comm]; exact Nat.mul_le_mul_left _ (by omega)
      omega
    unfold T_divided
    refine ⟨a.map PyData.int, rfl, ?_⟩
    refine ⟨.int t.length, by walk_at "pd", ?_⟩
    refine ⟨(List.replicate n (0 : Int)).map PyData.int, fRep_zero (by walk_at "pd"; rw [max0_len, ← hn]) (by omega), ?_⟩
    refine ⟨_, iRev1_len (n := n) (by walk_at "pd"; simp) (by omega), fun i env => ∃ l o y5 y6 y7, env = [some (ils a, false), some (ils t, false), some (ils l, true), some (.int t.length, false), some (ils o, true), y5, y6, y7] ∧ DivS a t n s i l o,
      ⟨a, _, none, none, none, rfl, div_init nt hn ba⟩, ?_, ?_⟩
    · rintro i _ _ hd ⟨l, o, y5, y6, y7, rfl, D⟩
      obtain ⟨hi, rfl⟩ := down_get hd
      obtain ⟨k, hk⟩ : ∃ k, k = n - 1 - i := ⟨_, rfl⟩
      rw [← hk]
      refine ⟨_, rfl, ?_⟩
      have hll := D.ll
      have hlo := D.lo
      have e1 : (k : Int) + (t.length : Int) - 1 = ((k + (t.length - 1) : Nat) : Int) := by omega
      have hix : atI (l.map PyData.int) ((k : Int) + (t.length : Int) - 1) = some (.int (co l (k + (t.length - 1)))) := by rw [e1, atI_ints (by omega)]; rfl
      have hlt : atI (t.map PyData.int) (-1) = some (.int (lc t)) := atI_neg nt
      have hlt0 : lc t ≠ 0 := lc_ne tt nt
      walk_at "pd"
      refine ⟨_, hix, !decide ((co l (k + (t.length - 1))).fmod (lc t) = 0), ?_, ?_⟩
      · rw [hlt]
        walk_at "pd"
        rw [if_neg hlt0]
        walk_at "pd"
      · by_cases hdv : lc t ∣ co l (k + (t.length - 1))
        · rw [if_neg (by simpa using Int.fmod_eq_zero_of_dvd hdv)]
          have hcc : co l (k + (t.length - 1)) = (co l (k + (t.length - 1))).fdiv (lc t) * lc t := (Int.fdiv_mul_cancel hdv).symm
          generalize hcd : (co l (k + (t.length - 1))).fdiv (lc t) = c at hcc
          have hcb : Sm c := by
            have h1 := D.bd (k + (t.length - 1))
            have h2 : (co l (k + (t.length - 1))).natAbs = c.natAbs * (lc t).natAbs := by rw [hcc, Int.natAbs_mul]
            have : 1 ≤ (lc t).natAbs := by omega
            have := Nat.le_mul_of_pos_right c.natAbs this
            exact sm_of (Nat.le_trans (by omega) h1) (hsz i (by omega))
          refine ⟨.int c, _, k, k, ?_, rfl, rfl, ?_, ?_⟩
          · rw [hlt]
            walk_at "pd"
            rw [if_neg hlt0, hcd]
          · rw [List.length_map]; exact ixN_nat (by omega)
          · refine ⟨_, iR1_len (n := t.length) (by walk_at "pd") (by omega), fun m env => ∃ l' y7, env = [some (ils a, false), some (ils t, false), some (ils l', true), some (.int t.length, false), some (ils (o.set k c), true), some (.int k, false), some (.int (co l (k + (t.length - 1))), false), y7] ∧ l'.length = l.length ∧ ∀ x, ev l' x = ev l x - c * x ^ k * ev (t.take m) x,
              ⟨l, y7, by rw [ints_set], rfl, fun x => by simp⟩, ?_, ?_⟩
            · rintro m _ _ hm0 ⟨l', y7, rfl, hl', he⟩
              obtain ⟨hm, rfl⟩ := rangeD_get hm0
              rw [Int.zero_add]
              refine ⟨_, rfl, ?_⟩
              have e2 : (k : Int) + (m : Int) = ((k + m : Nat) : Int) := by omega
              refine ⟨.int (co l' (k + m) - c * co t m), _, ((k + m : Nat) : Int), k + m, ?_, rfl, ?_, ?_, ?_⟩
              · walk_at "pd"
                rw [e2, atI_ints (by omega), atI_ints (by rw [List.length_set]; omega), atI_ints hm, getD_set_self (by omega)]
                walk_at "pd"
                rw [co_getD, co_getD, if_pos (mul_sm hcb (sm_of (bt m) (by have := hsz 0 (by omega); omega)))]
                rfl
              · walk_at "pd"
                rw [e2]
              · rw [List.length_map]; exact ixN_nat (by omega)
              · refine ⟨l'.set (k + m) (co l' (k + m) - c * co t m), _, by walk_at "pd"; rw [ints_set], by rw [List.length_set, hl'], fun x => ?_⟩
                rw [ev_set _ _ _ _ (by omega), he x, ev_take_succ, Int.pow_add]
                grind
            · rintro _ ⟨l', y7, rfl, hl', he⟩
              rw [rangeD_length, List.take_length] at he
              exact ⟨l', _, _, _, _, rfl, by rw [hk]; exact div_step tt nt bt D hi (by rw [← hk]; exact hcc) hl' (fun x => by rw [← hk]; exact he x)⟩
        · rw [if_pos (by simpa using fun z => hdv (Int.dvd_of_fmod_eq_zero z))]
          rw [div_none tt nt D hi (by rw [← hk]; exact hdv)] at h3
          cases h3
          exact ⟨rfl, rfl⟩
    · rintro _ ⟨l, o, y5, y6, y7, rfl, D⟩
      rw [List.length_map, List.length_range] at D
      have hcomp : fComp [6] (iL (fVarV 2)) (bN 6) fYes (fBin oNe (fVarV 6) (fC (.int 0))) [some (ils a, false), some (ils t, false), some (ils l, false), some (.int t.length, false), some (ils o, true), y5, y6, y7] = some ((l.map fun n => !decide (n = 0)).map PyData.bool) := by
        unfold fComp
        walk_at "pd"
        rw [if_pos (by have := D.ll; omega), compL_all (fun d => match d with | .int n => .bool (!decide (n = 0)) | _ => .none)]
        · simp
        · intro d hd
          obtain ⟨n, hn, rfl⟩ := List.mem_map.mp hd
          exact ⟨_, rfl, by walk_at "pd"⟩
      walk_at "pd"
      refine ⟨(l.map fun n => !decide (n = 0)).any id, ?_, ?_⟩
      · rw [hcomp]
        walk_at "pd"
        simp only [oAny, bools?_map, Option.map_some, Option.bind_some]
      · by_cases hz : (l.map fun n => !decide (n = 0)).any id = false
        · rw [if_neg (by rw [hz]; simp)]
          rw [div_some ta tt nt hn D ((any_zero l).mp hz)] at h3
          cases h3
          exact ⟨_, _, rfl, rfl, rfl⟩
        · rw [if_pos (by simpa using hz)]
          obtain ⟨k, hk⟩ : ∃ k, co l k ≠ 0 := Classical.byContradiction fun hn => hz ((any_zero l).mpr fun k => Classical.byContradiction fun z => hn ⟨k, z⟩)
          rw [div_fail tt nt D hk] at h3
          cases h3
          exact ⟨rfl, rfl⟩
  · cases h3
end K78

set_option Elab.async false
set_option linter.all false
set_option maxRecDepth 100000
set_option maxHeartbeats 4000000
set_option autoImplicit false
namespace K78
open PySem PD Pl L2
local macro_rules | `(tactic| walk_at "pd") => `(tactic| simp -implicitDefEqProofs only [pNext_, pSeq_, pDrop_, pMove_, pYoung_, fWhole_, fShort_, pSetV_, pSetF_, pSetG_, pPar_, pItem_, pApp_, pRetV_, pRetF_, pRetN_, pRet0_, pBreak_, pCont_, pIf_, endsOf_rt, endsOf_nx, fC_, fBin_, fUn_, fNil_, fCons_, fTup_, fLst_, fL_, fCall_, fIx_, fO0_, fAnd_, fOr_, fNot_, fIf_, fTru_, fDef_, fYes_, bN_, fVar_, fVarV_, fB_, fO1_, fSl_, fList_, fDefF_, ints?_map, iL_, fAndV_, fOrV_, iR1_, iR2_, iRev1_, dropE_nil, dropE_cons, drop1_, wipeE_nil, wipeE_cons, startE_,
  oI_, oB_, oAdd_, oSub_, oMul_, oDivZ_, oMod_, oPow_, oLt_, oLe_, oGt_, oGe_, oNeg_, oNot_, oIsN_, oEq_int, oNe_int, oEq_ils, oNe_ils, oEq_nil, oNe_nil, oNe_none, oEq_none, oNe_none_ils, oNe_ils_none, oAbs_, oInt_, oIntb_, oMax2_, oMin2_, oLen_, oLenT_, oIx_, oBits_, truI_, g1_, g2_, g3_, dInts_, dInt_, dAny_,
  List.getElem?_cons_zero, List.getElem?_cons_succ, List.set_cons_zero, List.set_cons_succ, Nat.zero_add, Nat.reduceAdd, Nat.reduceSub, List.replicate_succ, List.replicate_zero, Option.bind_some, Option.map_some, List.map_cons, List.map_nil, List.length_cons, List.length_nil, List.cons_append, List.nil_append, List.length_map, Option.some.injEq, exists_eq_left', Bool.false_eq_true, if_true, if_false, decide_true, decide_false, Bool.not_true, Bool.not_false, Bool.true_and, Bool.false_and, and_true, true_and])
/-! ### _law_trimmed -/
def gLTrim : GD := g1 dInts fun ns => if ns.length ≤ 100000 then some (ils (trim ns), true) else none
theorem gLTrim_ {p : P} (h : p.length ≤ 100000) : gLTrim [ils p] = some (ils (trim p), true) := by
  simp only [gLTrim, g1_, dInts_, Option.bind_some, if_pos h]
theorem w_ltrimmed (ds : List PyData) (d : PyData) (b : Bool) (h : gLTrim ds = some (d, b)) : T_x_law_trimmed (endsOf d b) (startE 3 ds) := by
  obtain ⟨a, ns, rfl, h1, h2⟩ := g1_inv h
  cases dInts_eq h1
  split at h2
  · rename_i hlen
    cases h2
    unfold T_x_law_trimmed
    refine ⟨.int ns.length, by walk_at "pd", ?_⟩
    refine ⟨_, iR1_len (n := ns.length) (by walk_at "pd") (by omega), fun i env => ∃ m : Nat, ∃ y, env = [some (ils ns, false), some (.int m, false), y] ∧ m ≤ ns.length ∧ trimLen ns m = trimLen ns ns.length ∧ (m + i ≤ ns.length ∨ trimLen ns m = m), ⟨ns.length, none, rfl, Nat.le_refl _, rfl, .inl (Nat.le_refl _)⟩, ?_, ?_⟩
    · rintro i _ _ hd ⟨m, y, rfl, h1, h2, h3⟩
      obtain ⟨hi, rfl⟩ := rangeD_get hd
      refine ⟨_, rfl, ?_⟩
      cases m with
      | zero =>
        refine ⟨false, by walk_at "pd"; simp, ?_⟩
        rw [if_neg (by simp)]
        exact ⟨0, _, rfl, h1, h2, .inr rfl⟩
      | succ m =>
        have hix : atI (ns.map PyData.int) (m : Int) = some (PyData.int (ns.getD m 0)) := atI_ints (by omega)
        have e : ((m + 1 : Nat) : Int) - 1 = (m : Int) := by omega
        refine ⟨decide (ns.getD m 0 = 0), by walk_at "pd"; simp [e, hix], ?_⟩
        by_cases hz : ns.getD m 0 = 0
        · rw [if_pos (decide_eq_true hz)]
          have e2 : trimLen ns (m + 1) = trimLen ns m := by rw [trimLen, if_pos hz]
          refine ⟨.int m, by walk_at "pd"; rw [e], m, _, rfl, by omega, by omega, ?_⟩
          rcases h3 with h3 | h3
          · left; omega
          · have := trimLen_le ns m; omega
        · rw [if_neg (by simpa using hz)]
          exact ⟨m + 1, _, rfl, h1, h2, .inr (by rw [trimLen, if_neg hz])⟩
    · rintro _ ⟨m, y, rfl, h1, h2, h3⟩
      rw [rangeD_length] at h3
      have hm : trimLen ns m = m := by
        rcases h3 with h3 | h3
        · have : m = 0 := by omega
          subst this; rfl
        · exact h3
      refine ⟨(trim ns).map PyData.int, ?_, rfl, rfl⟩
      walk_at "pd"
      rw [cutD_take _ _ (by simpa using h1), ← List.map_take]
      unfold trim
      rw [← h2, hm]
  · cases h2
/-! ### _law_times -/
open Classical in
noncomputable def gTimes : GD := g2 dInts dInts fun p q => if p.length ≤ 10000 ∧ q.length ≤ 10000 ∧ SmL p ∧ SmL q then some (ils (trim (mul p q)), true) else none
theorem gTimes_ {p q : P} (h1 : p.length ≤ 10000) (h2 : q.length ≤ 10000) (h3 : SmL p) (h4 : SmL q) : gTimes [ils p, ils q] = some (ils (trim (mul p q)), true) := by
  simp only [gTimes, g2_, dInts_, Option.bind_some]
  rw [if_pos ⟨h1, h2, h3, h4⟩]
theorem sm_co {p : P} (h : SmL p) {k : Nat} (hk : k < p.length) : Sm (p.getD k 0) := by
  rw [co_getD, co_lt hk]; exact h _ (List.getElem_mem hk)
theorem w_times (ds : List PyData) (d : PyData) (b : Bool) (h : gTimes ds = some (d, b)) : T_x_law_times gLTrim (endsOf d b) (startE 5 ds) := by
  obtain ⟨_, _, p, q, rfl, h1, h2, h3⟩ := g2_inv h
  cases dInts_eq h1
  cases dInts_eq h2
  split at h3
  · rename_i hc
    obtain ⟨lp, lq, sp, sq⟩ := hc
    cases h3
    unfold T_x_law_times
    refine ⟨_, fRep_zero (M := p.length + q.length) (by walk_at "pd"; rfl) (by omega), ?_⟩
    refine ⟨_, iR1_len (n := p.length) (by walk_at "pd") (by omega), fun i env => ∃ l y3 y4, env = [some (ils p, false), some (ils q, false), some (ils l, true), y3, y4] ∧ l.length = p.length + q.length ∧ ∀ x, ev l x = ev (p.take i) x * ev q x,
      ⟨_, none, none, rfl, by simp, fun x => by rw [ev_rep0]; simp⟩, ?_, ?_⟩
    · rintro i _ _ hd ⟨l, y3, y4, rfl, hl, he⟩
      obtain ⟨hi, rfl⟩ := rangeD_get hd
      rw [Int.zero_add]
      refine ⟨_, rfl, ?_⟩
      refine ⟨_, iR1_len (n := q.length) (by walk_at "pd") (by omega), fun j env => ∃ l' y4, env = [some (ils p, false), some (ils q, false), some (ils l', true), some (.int (i : Int), false), y4] ∧ l'.length = p.length + q.length ∧ ∀ x, ev l' x = ev (p.take i) x * ev q x + co p i * x ^ i * ev (q.take j) x,
        ⟨l, y4, rfl, hl, fun x => by rw [he x]; simp⟩, ?_, ?_⟩
      · rintro j _ _ hd2 ⟨l', y4, rfl, hl', he'⟩
        obtain ⟨hj, rfl⟩ := rangeD_get hd2
        rw [Int.zero_add]
        refine ⟨_, rfl, ?_⟩
        have e2 : (i : Int) + (j : Int) = ((i + j : Nat) : Int) := by omega
        refine ⟨.int (co l' (i + j) + co p i * co q j), _, ((i + j : Nat) : Int), i + j, ?_, rfl, ?_, ?_, ?_⟩
        · walk_at "pd"
          rw [e2, atI_ints (by omega), atI_ints hi, atI_ints hj]
          walk_at "pd"
          rw [if_pos (mul_sm (sm_co sp hi) (sm_co sq hj))]
          rfl
        · walk_at "pd"
          rw [e2]
        · rw [List.length_map]; exact ixN_nat (by omega)
        · refine ⟨l'.set (i + j) (co l' (i + j) + co p i * co q j), _, by walk_at "pd"; rw [ints_set], by rw [List.length_set, hl'], fun x => ?_⟩
          rw [ev_set _ _ _ _ (by omega), he' x, ev_take_succ, Int.pow_add]
          grind
      · rintro _ ⟨l', y4, rfl, hl', he'⟩
        rw [rangeD_length, List.take_length] at he'
        refine ⟨l', _, _, rfl, hl', fun x => ?_⟩
        rw [he' x, ev_take_succ]
        grind
    · rintro _ ⟨l, y3, y4, rfl, hl, he⟩
      rw [rangeD_length, List.take_length] at he
      have e : trim l = trim (mul p q) := ext_all (fun x => by rw [ev_trim, ev_trim, ev_mul, he x]) (tr_trim _) (tr_trim _)
      refine ⟨(trim (mul p q)).map PyData.int, ?_, rfl, rfl⟩
      walk_at "pd"
      rw [gLTrim_ (by omega), e]
      walk_at "pd"
  · cases h3
end K78

set_option Elab.async false
set_option linter.all false
set_option maxRecDepth 100000
set_option maxHeartbeats 4000000
set_option autoImplicit false
namespace K78
open PySem PD Pl L2
local macro_rules | `(tactic| walk_at "pd") => `(tactic| simp -implicitDefEqProofs only [pNext_, pSeq_, pDrop_, pMove_, pYoung_, fWhole_, fShort_, pSetV_, pSetF_, pSetG_, pPar_, pItem_, pApp_, pRetV_, pRetF_, pRetN_, pRet0_, pBreak_, pCont_, pIf_, endsOf_rt, endsOf_nx, fC_, fBin_, fUn_, fNil_, fCons_, fTup_, fLst_, fL_, fCall_, fIx_, fO0_, fAnd_, fOr_, fNot_, fIf_, fTru_, fDef_, fYes_, bN_, fVar_, fVarV_, fB_, fO1_, fSl_, fList_, fDefF_, ints?_map, iL_, fAndV_, fOrV_, iR1_, iR2_, iRev1_, dropE_nil, dropE_cons, drop1_, wipeE_nil, wipeE_cons, startE_,
  oI_, oB_, oAdd_, oSub_, oMul_, oDivZ_, oMod_, oPow_, oLt_, oLe_, oGt_, oGe_, oNeg_, oNot_, oIsN_, oEq_int, oNe_int, oEq_ils, oNe_ils, oEq_nil, oNe_nil, oNe_none, oEq_none, oNe_none_ils, oNe_ils_none, oAbs_, oInt_, oIntb_, oMax2_, oMin2_, oLen_, oLenT_, oIx_, oBits_, truI_, g1_, g2_, g3_, dInts_, dInt_, dAny_,
  List.getElem?_cons_zero, List.getElem?_cons_succ, List.set_cons_zero, List.set_cons_succ, Nat.zero_add, Nat.reduceAdd, Nat.reduceSub, List.replicate_succ, List.replicate_zero, Option.bind_some, Option.map_some, List.map_cons, List.map_nil, List.length_cons, List.length_nil, List.cons_append, List.nil_append, List.length_map, Option.some.injEq, exists_eq_left', Bool.false_eq_true, if_true, if_false, decide_true, decide_false, Bool.not_true, Bool.not_false, Bool.true_and, Bool.false_and, and_true, true_and])
/-! ### _law_divisor -/
theorem bits_ofNat (n : Nat) : Builtin.Int.intBits (n : Int) = if n = 0 then 0 else n.log2 + 1 := by
  unfold Builtin.Int.intBits
  by_cases h : n = 0
  · subst h; rfl
  · simp [h]
theorem bits_half {r f : Nat} (h : 2 * r ≤ f) (hf : 0 < f) : Builtin.Int.intBits (r : Int) + 1 ≤ Builtin.Int.intBits (f : Int) := by
  rw [bits_ofNat, bits_ofNat, if_neg (by omega : ¬ f = 0)]
  by_cases hr : r = 0
  · rw [if_pos hr]; omega
  · rw [if_neg hr]
    have h1 : 2 ^ r.log2 ≤ r := Nat.log2_self_le hr
    have h2 : 2 ^ (r.log2 + 1) ≤ f := by rw [Nat.pow_succ]; omega
    have := (Nat.le_log2 (by omega)).mpr h2
    omega
theorem bits_lt {n : Nat} (h : Sm (n : Int)) : Builtin.Int.intBits (n : Int) ≤ big := by
  rw [bits_ofNat]
  by_cases hz : n = 0
  · rw [if_pos hz]; omega
  · rw [if_neg hz]
    have h : n < 2 ^ big := h
    have := (Nat.log2_lt hz).mpr h
    omega
open Classical in
noncomputable def gDivisor : GD := g1 dInts fun p => if SmL p then some (.int (content p), false) else none
theorem gDivisor_ {p : P} (h : SmL p) : gDivisor [ils p] = some (.int (content p), false) := by
  simp only [gDivisor, g1_, dInts_, Option.bind_some, if_pos h]
theorem sm_small {n : Nat} (h : n < 1000000000) : Sm (n : Int) := by
  show n < 2 ^ big
  have : (1000000000 : Nat) ≤ 2 ^ 30 := by decide
  have := Nat.pow_le_pow_right (n := 2) (by omega) (show 30 ≤ big by decide)
  omega
theorem w_divisor (ds : List PyData) (d : PyData) (b : Bool) (h : gDivisor ds = some (d, b)) : T_x_law_divisor (endsOf d b) (startE 6 ds) := by
  obtain ⟨_, p, rfl, h1, h3⟩ := g1_inv h
  cases dInts_eq h1
  split at h3
  · rename_i hs
    cases h3
    have ea : ∀ a : Int, (if a < 0 then -a else a) = (a.natAbs : Int) := fun a => by split <;> omega
    unfold T_x_law_divisor
    refine ⟨.int 0, rfl, ?_⟩
    refine ⟨p.map PyData.int, rfl, fun i env => ∃ c : Nat, ∃ y2 y3 y4 y5, env = [some (ils p, false), some (.int c, false), y2, y3, y4, y5] ∧ Sm c ∧ contentFrom c (p.drop i) = content p, ⟨0, none, none, none, none, rfl, sm_small (by omega), by rw [List.drop_zero]; rfl⟩, ?_, ?_⟩
    · rintro i d _ hd ⟨c, y2, y3, y4, y5, rfl, hcs, hc⟩
      rw [List.getElem?_map] at hd
      obtain ⟨n, hn, rfl⟩ := Option.map_eq_some_iff.mp hd
      obtain ⟨hi, hn⟩ := List.getElem?_eq_some_iff.mp hn
      have hns : Sm n := by rw [← hn]; exact hs _ (List.getElem_mem hi)
      have hns' : Sm (n.natAbs : Int) := by unfold Sm at hns ⊢; omega
      refine ⟨_, rfl, ?_⟩
      refine ⟨.int n.natAbs, by walk_at "pd"; rw [ea], ?_⟩
      obtain ⟨B, hB⟩ : ∃ B, B = Builtin.Int.intBits (c : Int) + Builtin.Int.intBits (n.natAbs : Int) := ⟨_, rfl⟩
      have b1 := bits_lt hcs
      have b2 := bits_lt hns'
      have hbig : big = 60000000 := rfl
      refine ⟨rangeD 0 (4 + 2 * B), ?_, fun j env => ∃ f o : Nat, ∃ y4 y5, env = [some (ils p, false), some (.int f, false), some (.int n, false), some (.int o, false), y4, y5] ∧ Sm f ∧ Sm o ∧ Nat.gcd f o = Int.gcd c n ∧ (o = 0 ∨ (f = c ∧ o = n.natAbs ∧ j = 0) ∨ (o ≤ f ∧ Builtin.Int.intBits (f : Int) + Builtin.Int.intBits (o : Int) + j ≤ B + 1)),
        ⟨c, n.natAbs, y4, y5, rfl, hcs, hns', rfl, .inr (.inl ⟨rfl, rfl, rfl⟩)⟩, ?_, ?_⟩
      · rw [iR1_]
        walk_at "pd"
        rw [if_pos (mul_sm (i := 2) (sm_small (n := 2) (by omega)) (sm_small (by omega))), if_pos (mul_sm (i := 2) (sm_small (n := 2) (by omega)) (sm_small (by omega)))]
        walk_at "pd"
        rw [if_pos ⟨by omega, by omega⟩]
        congr 2
        omega
      · rintro j _ _ hj ⟨f, o, y4, y5, rfl, hf, ho, hg, hcase⟩
        obtain ⟨hj, rfl⟩ := rangeD_get hj
        refine ⟨_, rfl, decide ((0 : Int) < (o : Int)), by walk_at "pd", ?_⟩
        by_cases hz : o = 0
        · rw [if_neg (by simp [hz])]
          exact ⟨f, o, _, _, rfl, hf, ho, hg, .inl hz⟩
        · rw [if_pos (decide_eq_true (by omega))]
          have hlt : f % o < o := Nat.mod_lt f (by omega)
          refine ⟨.int ((f % o : Nat) : Int), ?_, ?_⟩
          · walk_at "pd"
            rw [if_neg (by omega), Int.fmod_eq_emod_of_nonneg _ (by omega)]
            rfl
          · refine ⟨_, rfl, _, rfl, o, f % o, _, _, rfl, ho, ?_, ?_, ?_⟩
            · have h1 : f % o ≤ o := by omega
              have ho : o < 2 ^ big := ho
              show f % o < 2 ^ big
              omega
            · rw [← hg, Nat.gcd_comm f o]
              conv => rhs; rw [Nat.gcd_rec]
              rw [Nat.gcd_comm]
            · right; right
              refine ⟨by omega, ?_⟩
              have half : o ≤ f → Builtin.Int.intBits ((f % o : Nat) : Int) + 1 ≤ Builtin.Int.intBits (f : Int) := fun hof => bits_half (by
                have := Nat.div_add_mod f o
                have h1 : 1 ≤ f / o := (Nat.le_div_iff_mul_le (by omega)).mpr (by omega)
                have h2 : o * 1 ≤ o * (f / o) := Nat.mul_le_mul_left _ h1
                omega) (by omega)
              rcases hcase with h0 | ⟨rfl, rfl, rfl⟩ | ⟨h1, h2⟩
              · exact absurd h0 hz
              · by_cases hof : n.natAbs ≤ f
                · have := half hof; omega
                · have : f % n.natAbs = f := Nat.mod_eq_of_lt (by omega)
                  rw [this]; omega
              · have := half h1; omega
      · rintro _ ⟨f, o, y4, y5, rfl, hf, ho, hg, hcase⟩
        rw [rangeD_length] at hcase
        have hz : o = 0 := by
          rcases hcase with h0 | ⟨_, _, h0⟩ | ⟨_, h2⟩
          · exact h0
          · omega
          · omega
        subst hz
        rw [Nat.gcd_zero_right] at hg
        refine ⟨f, _, _, _, _, rfl, hf, ?_⟩
        rw [hg, ← hc, List.drop_eq_getElem_cons hi, hn]
        rfl
    · rintro _ ⟨c, y2, y3, y4, y5, rfl, _, hc⟩
      rw [List.length_map, List.drop_length] at hc
      have hc : (c : Int) = content p := hc
      exact ⟨_, _, rfl, by rw [hc], rfl⟩
  · cases h3
/-! ### _law_lowest -/
open Classical in
noncomputable def gLowest : GD := g1 dInts fun p => if p.length ≤ 100000 ∧ Tr p ∧ SmL p then some (ils (prim p), true) else none
theorem gLowest_ {p : P} (h1 : p.length ≤ 100000) (h2 : Tr p) (h3 : SmL p) : gLowest [ils p] = some (ils (prim p), true) := by
  simp only [gLowest, g1_, dInts_, Option.bind_some]
  rw [if_pos ⟨h1, h2, h3⟩]
theorem w_lowest (ds : List PyData) (d : PyData) (b : Bool) (h : gLowest ds = some (d, b)) : T_x_law_lowest gDivisor (endsOf d b) (startE 3 ds) := by
  obtain ⟨_, p, rfl, h1, h3⟩ := g1_inv h
  cases dInts_eq h1
  split at h3
  · rename_i hc
    obtain ⟨hl, tp, sp⟩ := hc
    cases h3
    unfold T_x_law_lowest
    refine ⟨decide (p = []), ?_, ?_⟩
    · rw [fB_, fBin_, fVarV_, fL_]
      walk_at "pd"
      rw [if_pos (by omega)]
      walk_at "pd"
    · by_cases hz : p = []
      · rw [if_pos (decide_eq_true hz), hz, prim_nil]
        exact ⟨[], rfl, rfl, rfl⟩
      · rw [if_neg (by simpa using hz)]
        have hc0 := content_ne tp hz
        refine ⟨.int (content p), by walk_at "pd"; rw [gDivisor_ sp]; rfl, ?_⟩
        refine ⟨decide (lc p < 0), by walk_at "pd"; rw [atI_neg hz]; walk_at "pd"; rfl, ?_⟩
        by_cases hn : lc p < 0
        · rw [if_pos (decide_eq_true hn)]
          refine ⟨.int (-content p), rfl, _, comp_div' (by omega) hl, ?_, rfl⟩
          unfold prim
          rw [if_neg hc0, if_pos hn]
        · rw [if_neg (by simpa using hn)]
          refine ⟨_, comp_div' hc0 hl, ?_, rfl⟩
          unfold prim
          rw [if_neg hc0, if_neg hn]
  · cases h3
end K78

set_option Elab.async false
set_option linter.all false
set_option maxRecDepth 100000
set_option maxHeartbeats 4000000
set_option autoImplicit false
namespace K78
open PySem PD Pl L2
local macro_rules | `(tactic| walk_at "pd") => `(tactic| simp -implicitDefEqProofs only [pNext_, pSeq_, pDrop_, pMove_, pYoung_, fWhole_, fShort_, pSetV_, pSetF_, pSetG_, pPar_, pItem_, pApp_, pRetV_, pRetF_, pRetN_, pRet0_, pBreak_, pCont_, pIf_, endsOf_rt, endsOf_nx, fC_, fBin_, fUn_, fNil_, fCons_, fTup_, fLst_, fL_, fCall_, fIx_, fO0_, fAnd_, fOr_, fNot_, fIf_, fTru_, fDef_, fYes_, bN_, fVar_, fVarV_, fB_, fO1_, fSl_, fList_, fDefF_, ints?_map, iL_, fAndV_, fOrV_, iR1_, iR2_, iRev1_, dropE_nil, dropE_cons, drop1_, wipeE_nil, wipeE_cons, startE_,
  oI_, oB_, oAdd_, oSub_, oMul_, oDivZ_, oMod_, oPow_, oLt_, oLe_, oGt_, oGe_, oNeg_, oNot_, oIsN_, oEq_int, oNe_int, oEq_ils, oNe_ils, oEq_nil, oNe_nil, oNe_none, oEq_none, oNe_none_ils, oNe_ils_none, oAbs_, oInt_, oIntb_, oMax2_, oMin2_, oLen_, oLenT_, oIx_, oBits_, truI_, g1_, g2_, g3_, dInts_, dInt_, dAny_,
  List.getElem?_cons_zero, List.getElem?_cons_succ, List.set_cons_zero, List.set_cons_succ, Nat.zero_add, Nat.reduceAdd, Nat.reduceSub, List.replicate_succ, List.replicate_zero, Option.bind_some, Option.map_some, List.map_cons, List.map_nil, List.length_cons, List.length_nil, List.cons_append, List.nil_append, List.length_map, Option.some.injEq, exists_eq_left', Bool.false_eq_true, if_true, if_false, decide_true, decide_false, Bool.not_true, Bool.not_false, Bool.true_and, Bool.false_and, and_true, true_and])
/-! ### _law_divided -/
theorem fE {env : PEnv} : fL (fLst fNil) env = some (.list []) := by
  rw [fL_, fLst_, fNil_, Option.bind_some, if_pos (by decide), Option.map_some]
theorem w_ldivided (ds : List PyData) (d : PyData) (b : Bool) (h : gDiv ds = some (d, b)) : T_x_law_divided gLTrim (endsOf d b) (startE 8 ds) := by
  obtain ⟨_, _, a, t, rfl, h1, h2, h3⟩ := g2_inv h
  cases dInts_eq h1
  cases dInts_eq h2
  split at h3
  · rename_i hc
    obtain ⟨ta, tt, nt, la, lt, s, ba, bt, hs⟩ := hc
    have h3 := Option.some.inj h3
    have pt : 0 < t.length := List.length_pos_iff.mpr nt
    obtain ⟨n, hn⟩ : ∃ n, n = a.length + 1 - t.length := ⟨_, rfl⟩
    have hsz : ∀ i, i ≤ n → s + i * (s + 1) < big := fun i hi => by
      have h1 : (s + 1) * (a.length + 2) = (s + 1) * (a.length + 1) + (s + 1) := Nat.mul_succ _ _
      have h2 : i * (s + 1) ≤ (s + 1) * (a.length + 1) := by rw [Nat.mul_comm]; exact Nat.mul_le_mul_left _ (by omega)
      omega
    unfold T_x_law_divided
    refine ⟨a.map PyData.int, rfl, ?_⟩
    refine ⟨(List.replicate n (0 : Int)).map PyData.int, fRep_zero (by walk_at "pd"; rw [max0_len, ← hn]) (by omega), ?_⟩
    refine ⟨_, iR1_len (n := n) (by walk_at "pd"; simp) (by omega), fun i env => ∃ l o y4 y5 y6 y7, env = [some (ils a, false), some (ils t, false), some (ils l, true), some (ils o, true), y4, y5, y6, y7] ∧ DivS a t n s i l o,
      ⟨a, _, none, none, none, none, rfl, div_init nt hn ba⟩, ?_, ?_⟩
    · rintro i _ _ hd ⟨l, o, y4, y5, y6, y7, rfl, D⟩
      obtain ⟨hi, rfl⟩ := rangeD_get hd
      rw [Int.zero_add]
      obtain ⟨k, hk⟩ : ∃ k, k = n - 1 - i := ⟨_, rfl⟩
      have hll := D.ll
      have hlo := D.lo
      have e0 : (o.length : Int) - 1 - (i : Int) = (k : Int) := by omega
      have e1 : (k : Int) + (t.length : Int) - 1 = ((k + (t.length - 1) : Nat) : Int) := by omega
      have hix : atI (l.map PyData.int) ((k : Int) + (t.length : Int) - 1) = some (.int (co l (k + (t.length - 1)))) := by rw [e1, atI_ints (by omega)]; rfl
      have hlt : atI (t.map PyData.int) (-1) = some (.int (lc t)) := atI_neg nt
      have hlt0 : lc t ≠ 0 := lc_ne tt nt
      refine ⟨_, rfl, ?_⟩
      refine ⟨.int (k : Int), by walk_at "pd"; rw [e0], ?_⟩
      refine ⟨.int (co l (k + (t.length - 1))), by walk_at "pd"; rw [hix], ?_⟩
      refine ⟨!decide ((co l (k + (t.length - 1))).fmod (lc t) = 0), ?_, ?_⟩
      · walk_at "pd"
        rw [hlt]
        walk_at "pd"
        rw [if_neg hlt0]
        walk_at "pd"
      · by_cases hdv : lc t ∣ co l (k + (t.length - 1))
        · rw [if_neg (by simpa using Int.fmod_eq_zero_of_dvd hdv)]
          have hcc : co l (k + (t.length - 1)) = (co l (k + (t.length - 1))).fdiv (lc t) * lc t := (Int.fdiv_mul_cancel hdv).symm
          generalize hcd : (co l (k + (t.length - 1))).fdiv (lc t) = c at hcc
          have hcb : Sm c := by
            have h1 := D.bd (k + (t.length - 1))
            have h2 : (co l (k + (t.length - 1))).natAbs = c.natAbs * (lc t).natAbs := by rw [hcc, Int.natAbs_mul]
            have : 1 ≤ (lc t).natAbs := by omega
            have := Nat.le_mul_of_pos_right c.natAbs this
            exact sm_of (Nat.le_trans (by omega) h1) (hsz i (by omega))
          refine ⟨.int c, _, k, k, ?_, rfl, rfl, ?_, ?_⟩
          · walk_at "pd"
            rw [hlt]
            walk_at "pd"
            rw [if_neg hlt0, hcd]
          · rw [List.length_map]; exact ixN_nat (by omega)
          · refine ⟨_, iR1_len (n := t.length) (by walk_at "pd") (by omega), fun m env => ∃ l' y7, env = [some (ils a, false), some (ils t, false), some (ils l', true), some (ils (o.set k c), true), some (.int i, false), some (.int k, false), some (.int (co l (k + (t.length - 1))), false), y7] ∧ l'.length = l.length ∧ ∀ x, ev l' x = ev l x - c * x ^ k * ev (t.take m) x,
              ⟨l, y7, by walk_at "pd"; rw [ints_set], rfl, fun x => by simp⟩, ?_, ?_⟩
            · rintro m _ _ hm0 ⟨l', y7, rfl, hl', he⟩
              obtain ⟨hm, rfl⟩ := rangeD_get hm0
              rw [Int.zero_add]
              refine ⟨_, rfl, ?_⟩
              have e2 : (k : Int) + (m : Int) = ((k + m : Nat) : Int) := by omega
              refine ⟨.int (co l' (k + m) - c * co t m), _, ((k + m : Nat) : Int), k + m, ?_, rfl, ?_, ?_, ?_⟩
              · walk_at "pd"
                rw [e2, atI_ints (by omega), atI_ints (by rw [List.length_set]; omega), atI_ints hm, getD_set_self (by omega)]
                walk_at "pd"
                rw [co_getD, co_getD, if_pos (mul_sm hcb (sm_of (bt m) (by have := hsz 0 (by omega); omega)))]
                rfl
              · walk_at "pd"
                rw [e2]
              · rw [List.length_map]; exact ixN_nat (by omega)
              · refine ⟨l'.set (k + m) (co l' (k + m) - c * co t m), _, by walk_at "pd"; rw [ints_set], by rw [List.length_set, hl'], fun x => ?_⟩
                rw [ev_set _ _ _ _ (by omega), he x, ev_take_succ, Int.pow_add]
                grind
            · rintro _ ⟨l', y7, rfl, hl', he⟩
              rw [rangeD_length, List.take_length] at he
              exact ⟨l', _, _, _, _, _, rfl, by rw [hk]; exact div_step tt nt bt D hi (by rw [← hk]; exact hcc) hl' (fun x => by rw [← hk]; exact he x)⟩
        · rw [if_pos (by simpa using fun z => hdv (Int.dvd_of_fmod_eq_zero z))]
          rw [div_none tt nt D hi (by rw [← hk]; exact hdv)] at h3
          cases h3
          exact ⟨_, rfl, rfl, rfl⟩
    · rintro _ ⟨l, o, y4, y5, y6, y7, rfl, D⟩
      rw [rangeD_length] at D
      have hll := D.ll
      refine ⟨!decide (trim l = []), ?_, ?_⟩
      · rw [fB_, fBin_, fDef_, fE]
        walk_at "pd"
        rw [gLTrim_ (by omega)]
        walk_at "pd"
      · have hco : trim l = [] ↔ ∀ k, co l k = 0 := ⟨fun z k => by rw [← co_trim, z]; simp, fun z => ext_all (fun x => by
            have := ev_ext_co (p := l) (q := []) (fun k => by rw [z k]; simp) x
            rw [ev_trim, this]) (tr_trim _) tr_nil⟩
        by_cases hz : trim l = []
        · rw [if_neg (by simp [hz])]
          rw [div_some ta tt nt hn D (hco.mp hz)] at h3
          cases h3
          exact ⟨_, _, rfl, rfl, rfl⟩
        · rw [if_pos (by simp [hz])]
          obtain ⟨k, hk⟩ : ∃ k, co l k ≠ 0 := Classical.byContradiction fun hn => hz (hco.mpr fun k => Classical.byContradiction fun z => hn ⟨k, z⟩)
          rw [div_fail tt nt D hk] at h3
          cases h3
          exact ⟨_, rfl, rfl, rfl⟩
  · cases h3
/-! ### often -/
end K78

set_option Elab.async false
set_option linter.all false
set_option maxRecDepth 100000
set_option maxHeartbeats 4000000
set_option autoImplicit false
namespace K78
open PySem PD Pl L2
local macro_rules | `(tactic| walk_at "pd") => `(tactic| simp -implicitDefEqProofs only [pNext_, pSeq_, pDrop_, pMove_, pYoung_, fWhole_, fShort_, pSetV_, pSetF_, pSetG_, pPar_, pItem_, pApp_, pRetV_, pRetF_, pRetN_, pRet0_, pBreak_, pCont_, pIf_, endsOf_rt, endsOf_nx, fC_, fBin_, fUn_, fNil_, fCons_, fTup_, fLst_, fL_, fCall_, fIx_, fO0_, fAnd_, fOr_, fNot_, fIf_, fTru_, fDef_, fYes_, bN_, fVar_, fVarV_, fB_, fO1_, fSl_, fList_, fDefF_, ints?_map, iL_, fAndV_, fOrV_, iR1_, iR2_, iRev1_, dropE_nil, dropE_cons, drop1_, wipeE_nil, wipeE_cons, startE_,
  oI_, oB_, oAdd_, oSub_, oMul_, oDivZ_, oMod_, oPow_, oLt_, oLe_, oGt_, oGe_, oNeg_, oNot_, oIsN_, oEq_int, oNe_int, oEq_ils, oNe_ils, oEq_nil, oNe_nil, oNe_none, oEq_none, oNe_none_ils, oNe_ils_none, oAbs_, oInt_, oIntb_, oMax2_, oMin2_, oLen_, oLenT_, oIx_, oBits_, truI_, g1_, g2_, g3_, dInts_, dInt_, dAny_,
  List.getElem?_cons_zero, List.getElem?_cons_succ, List.set_cons_zero, List.set_cons_succ, Nat.zero_add, Nat.reduceAdd, Nat.reduceSub, List.replicate_succ, List.replicate_zero, Option.bind_some, Option.map_some, List.map_cons, List.map_nil, List.length_cons, List.length_nil, List.cons_append, List.nil_append, List.length_map, Option.some.injEq, exists_eq_left', Bool.false_eq_true, if_true, if_false, decide_true, decide_false, Bool.not_true, Bool.not_false, Bool.true_and, Bool.false_and, and_true, true_and])
/-! ### _law_common -/
open Classical in
noncomputable def gCommon : GD := g2 dInts dInts fun a b => if okGcd a b then some (ils (gcdP a b), false) else none
theorem gCommon_ {a b : P} (h : okGcd a b) : gCommon [ils a, ils b] = some (ils (gcdP a b), false) := by
  simp only [gCommon, g2_, dInts_, Option.bind_some, if_pos h]
theorem w_common (ds : List PyData) (d : PyData) (b : Bool) (h : gCommon ds = some (d, b)) : T_x_law_common gLowest gLTrim (endsOf d b) (startE 9 ds) := by
  obtain ⟨_, _, a, t, rfl, h1, h2, h3⟩ := g2_inv h
  cases dInts_eq h1
  cases dInts_eq h2
  split at h3
  · rename_i hc
    obtain ⟨ta, tt, N, c, la, lt, hN, ba, bt, hs⟩ := hc
    cases h3
    obtain ⟨s', hs', hcs, hss⟩ : ∃ s', (s' + 1) * (N + 2) ≤ big ∧ c ≤ s' ∧ (c + 12) * (2 * N) ≤ s' := ⟨(c + 12) * (2 * N) + c, hs, by omega, by omega⟩
    have hsb : s' + (N + 1) * (s' + 1) < big := by
      have h1 : (s' + 1) * (N + 2) = (s' + 1) * (N + 1) + (s' + 1) := Nat.mul_succ _ _
      rw [Nat.mul_comm (N + 1)]
      omega
    have hsb0 : s' < big := by omega
    have lp := prim_or ta
    have lq := prim_or tt
    have np : (prim a).length ≤ N := by rw [prim_length a ta]; exact la
    have nq : (prim t).length ≤ N := by rw [prim_length t tt]; exact lt
    have bp : Bd (prim a) (2 ^ c) := ba.prim ta
    have bq : Bd (prim t) (2 ^ c) := bt.prim tt
    have up : 2 ^ c ≤ 2 ^ s' := Nat.pow_le_pow_right (by omega) hcs
    have sa : SmL a := sml_of ba (by omega)
    have st : SmL t := sml_of bt (by omega)
    unfold T_x_law_common
    refine ⟨ils (prim a), by walk_at "pd"; rw [gLowest_ (by omega) ta sa]; rfl, ?_⟩
    refine ⟨ils (prim t), by walk_at "pd"; rw [gLowest_ (by omega) tt st]; rfl, ?_⟩
    refine ⟨_, iR1_len (n := (prim a).length + (prim t).length + 2) (by walk_at "pd"; rfl) (by omega), fun i env => ∃ r1 r2 n y2 y3 y4 y5 y6 y7 y8, env = [some (ils r1, false), some (ils r2, false), y2, y3, y4, y5, y6, y7, y8] ∧ GS (prim a) (prim t) N s' r1 r2 ∧ r2.length < n ∧ gcdGo n r1 r2 = gcdP a t ∧ r2.length + i ≤ (prim t).length,
      ⟨prim a, prim t, t.length + 1, none, none, none, none, none, none, none, rfl, ⟨lp, lq, bp.mono up, bq.mono up, np, nq, .inl ⟨rfl, rfl⟩⟩, by rw [prim_length t tt]; omega, rfl, by omega⟩, ?_, ?_⟩
    · rintro i _ _ hd ⟨r1, r2, n, y2, y3, y4, y5, y6, y7, y8, rfl, G, hn, hg, hi⟩
      obtain ⟨hi0, rfl⟩ := rangeD_get hd
      refine ⟨_, rfl, ?_⟩
      have n1 := G.n1
      have n2 := G.n2
      refine ⟨decide (r2 = []), ?_, ?_⟩
      · rw [fB_, fBin_, fE]
        walk_at "pd"
      by_cases hz : r2 = []
      · rw [if_pos (decide_eq_true hz)]
        refine ⟨_, _, rfl, ?_, rfl⟩
        cases n with
        | zero => omega
        | succ n =>
          rw [gcdGo, if_pos hz] at hg
          rw [hg]
      · rw [if_neg (by simpa using hz)]
        have l2 : Low r2 := by
          rcases G.l2 with z | z
          · exact absurd z hz
          · exact z
        have G' := GS.next (s := s') (c := c) hN hss lp lq np nq bp bq G hz
        refine ⟨r1.map PyData.int, rfl, ?_⟩
        refine ⟨_, iR1_len (n := r1.length + 1) (by walk_at "pd"; rfl) (by omega), fun j env => ∃ r p m y4 y5 y6 y7 y8, env = [some (ils r1, false), some (ils r2, false), some (.int (0 + (i : Int)), false), some (ils r, true), y4, y5, y6, y7, y8] ∧ Rl r p ∧ (p = [] ∨ Low p) ∧ p.length < m ∧ remGo m p r2 = rem r1 r2 ∧ p.length ≤ N ∧ Bd r (2 ^ (s' + j * (s' + 1))) ∧ (p.length + j ≤ r1.length ∨ p.length < r2.length),
          ⟨r1, r1, r1.length + 1, y4, y5, y6, y7, y8, rfl, Rl.refl (low_tr G.l1), G.l1, by omega, by unfold rem; rw [prim_own G.l1], n1, by simpa using G.b1, .inl (by omega)⟩, ?_, ?_⟩
        · rintro j _ _ hj ⟨r, p, m, y4, y5, y6, y7, y8, rfl, R, hp, hm, hrg, hpN, br, hlen⟩
          obtain ⟨hj, rfl⟩ := rangeD_get hj
          refine ⟨_, rfl, ?_⟩
          have tp := low_tr hp
          have rl := R.len tp
          have hje : s' + j * (s' + 1) < big := by
            have : j * (s' + 1) ≤ (N + 1) * (s' + 1) := Nat.mul_le_mul_right _ (by omega)
            omega
          refine ⟨decide ((r2.length : Int) ≤ (r.length : Int)), by walk_at "pd", ?_⟩
          by_cases hle : r2.length ≤ p.length
          · rw [if_pos (decide_eq_true (by omega))]
            have p2 : 0 < r2.length := List.length_pos_iff.mpr hz
            have pne : p ≠ [] := fun z => by rw [z, List.length_nil] at hle; omega
            have rne : r ≠ [] := fun z => by rw [z, List.length_nil] at rl; omega
            obtain ⟨k1, k2, k3, _⟩ := remStep_spec pne hz hle
            obtain ⟨gap, hgap⟩ : ∃ gap, gap = r.length - r2.length := ⟨_, rfl⟩
            have egap : (r.length : Int) - (r2.length : Int) = (gap : Int) := by omega
            have sr : SmL r := sml_of br hje
            have sl2 : Sm (lc r2) := sm_of G.b2.lc hsb0
            have slr : Sm (lc r) := sm_of br.lc hje
            refine ⟨.int gap, by walk_at "pd"; rw [egap], ?_⟩
            refine ⟨.int (lc r), by walk_at "pd"; rw [atI_neg rne]; rfl, ?_⟩
            refine ⟨(smul (lc r2) r).map PyData.int, ?_, ?_⟩
            · unfold fComp
              walk_at "pd"
              rw [if_pos (by omega), compL_all (fun d => match d with | .int n => .int (lc r2 * n) | _ => .none)]
              · simp [smul]
              · intro d hd
                obtain ⟨v, hv, rfl⟩ := List.mem_map.mp hd
                refine ⟨_, rfl, ?_⟩
                walk_at "pd"
                rw [atI_neg hz]
                walk_at "pd"
                rw [lc_last, if_pos (mul_sm sl2 (sr v hv))]
            · refine ⟨_, iR1_len (n := r2.length) (by walk_at "pd") (by omega), fun k env => ∃ l y7, env = [some (ils r1, false), some (ils r2, false), some (.int (0 + (i : Int)), false), some (ils l, true), some (.int (0 + (j : Int)), false), some (.int gap, false), some (.int (lc r), false), y7, y8] ∧ l.length = r.length ∧ ∀ x, ev l x = lc r2 * ev r x - lc r * x ^ gap * ev (r2.take k) x,
                ⟨smul (lc r2) r, y7, rfl, smul_length _ _, fun x => by rw [ev_smul]; simp⟩, ?_, ?_⟩
              · rintro k _ _ hk0 ⟨l, y7, rfl, hl, he⟩
                obtain ⟨hk, rfl⟩ := rangeD_get hk0
                rw [Int.zero_add]
                refine ⟨_, rfl, ?_⟩
                have e2 : (gap : Int) + (k : Int) = ((gap + k : Nat) : Int) := by omega
                refine ⟨.int (co l (gap + k) - lc r * co r2 k), _, ((gap + k : Nat) : Int), gap + k, ?_, rfl, ?_, ?_, ?_⟩
                · walk_at "pd"
                  rw [e2, atI_ints (by omega), atI_ints hk]
                  walk_at "pd"
                  rw [co_getD, co_getD, if_pos (mul_sm slr (sm_of (G.b2 k) hsb0))]
                  rfl
                · walk_at "pd"
                  rw [e2]
                · rw [List.length_map]; exact ixN_nat (by omega)
                · refine ⟨l.set (gap + k) (co l (gap + k) - lc r * co r2 k), _, by walk_at "pd"; rw [ints_set], by rw [List.length_set, hl], fun x => ?_⟩
                  rw [ev_set _ _ _ _ (by omega), he x, ev_take_succ, Int.pow_add]
                  grind
              · rintro _ ⟨l, y7, rfl, hl, he⟩
                rw [rangeD_length, List.take_length] at he
                have e : trim l = rawStep r r2 := by
                  unfold rawStep
                  refine ext_all (fun x => ?_) (tr_trim _) (tr_trim _)
                  rw [ev_trim, ev_trim, he x, ev_add, ev_smul, ev_shift, ev_smul, ← hgap]
                  grind
                refine ⟨(rawStep r r2).map PyData.int, by walk_at "pd"; rw [gLTrim_ (by omega), e]; rfl, ?_⟩
                cases m with
                | zero => omega
                | succ m =>
                  rw [remGo_go hle] at hrg
                  refine ⟨rawStep r r2, remStep p r2, m, _, _, _, _, _, rfl, R.step tp pne hz hle, k3, by omega, hrg, by omega, ?_, ?_⟩
                  · have := br.rawStep G.b2
                    rw [Nat.succ_mul]
                    exact this.mono (Nat.pow_le_pow_right (by omega) (by omega))
                  · rcases hlen with z | z
                    · left; omega
                    · omega
          · rw [if_neg (by simp; omega)]
            refine ⟨r, p, m, _, _, _, _, _, rfl, R, hp, hm, hrg, hpN, br.mono (Nat.pow_le_pow_right (by omega) (by rw [Nat.succ_mul]; omega)), .inr (by omega)⟩
        · rintro _ ⟨r, p, m, y4, y5, y6, y7, y8, rfl, R, hp, hm, hrg, hpN, br, hlen⟩
          rw [rangeD_length] at hlen br
          have hsh : p.length < r2.length := by
            rcases hlen with z | z
            · omega
            · exact z
          rw [remGo_stop hsh] at hrg
          subst hrg
          have tp := low_tr hp
          have rl := R.len tp
          have hje : s' + (r1.length + 1) * (s' + 1) < big := by
            have : (r1.length + 1) * (s' + 1) ≤ (N + 1) * (s' + 1) := Nat.mul_le_mul_right _ (by omega)
            omega
          refine ⟨ils r2, rfl, ils (rem r1 r2), by walk_at "pd"; rw [gLowest_ (by omega) R.1 (sml_of br hje), R.prim hp]; rfl, ?_⟩
          cases n with
          | zero => omega
          | succ n =>
            rw [gcdGo, if_neg hz] at hg
            exact ⟨r2, rem r1 r2, n, _, _, _, _, _, _, _, rfl, G'.1, by have := G'.2; omega, hg, by have := G'.2; omega⟩
    · rintro _ ⟨r1, r2, n, y2, y3, y4, y5, y6, y7, y8, rfl, G, hn, hg, hi⟩
      rw [rangeD_length] at hi
      omega
  · cases h3
end K78

set_option Elab.async false
set_option linter.all false
set_option maxRecDepth 100000
set_option maxHeartbeats 4000000
set_option autoImplicit false
namespace K78
open PySem PD Pl L2
local macro_rules | `(tactic| walk_at "pd") => `(tactic| simp -implicitDefEqProofs only [pNext_, pSeq_, pDrop_, pMove_, pYoung_, fWhole_, fShort_, pSetV_, pSetF_, pSetG_, pPar_, pItem_, pApp_, pRetV_, pRetF_, pRetN_, pRet0_, pBreak_, pCont_, pIf_, endsOf_rt, endsOf_nx, fC_, fBin_, fUn_, fNil_, fCons_, fTup_, fLst_, fL_, fCall_, fIx_, fO0_, fAnd_, fOr_, fNot_, fIf_, fTru_, fDef_, fYes_, bN_, fVar_, fVarV_, fB_, fO1_, fSl_, fList_, fDefF_, ints?_map, iL_, fAndV_, fOrV_, iR1_, iR2_, iRev1_, dropE_nil, dropE_cons, drop1_, wipeE_nil, wipeE_cons, startE_,
  oI_, oB_, oAdd_, oSub_, oMul_, oDivZ_, oMod_, oPow_, oLt_, oLe_, oGt_, oGe_, oNeg_, oNot_, oIsN_, oEq_int, oNe_int, oEq_ils, oNe_ils, oEq_nil, oNe_nil, oNe_none, oEq_none, oNe_none_ils, oNe_ils_none, oAbs_, oInt_, oIntb_, oMax2_, oMin2_, oLen_, oLenT_, oIx_, oBits_, truI_, g1_, g2_, g3_, dInts_, dInt_, dAny_,
  List.getElem?_cons_zero, List.getElem?_cons_succ, List.set_cons_zero, List.set_cons_succ, Nat.zero_add, Nat.reduceAdd, Nat.reduceSub, List.replicate_succ, List.replicate_zero, Option.bind_some, Option.map_some, List.map_cons, List.map_nil, List.length_cons, List.length_nil, List.cons_append, List.nil_append, List.length_map, Option.some.injEq, exists_eq_left', Bool.false_eq_true, if_true, if_false, decide_true, decide_false, Bool.not_true, Bool.not_false, Bool.true_and, Bool.false_and, and_true, true_and])
/-! ### _law_mix -/
def Drawn (ds : List Int) : Prop := ds.length ≤ 100000 ∧ ∀ x ∈ ds, 0 ≤ x ∧ x < 1000000
def mixV (ds : List Int) (k m : Int) : Int :=
  let v := if ds = [] then 0 else ds.getD (k.fmod ds.length).toNat 0
  if k < ds.length then v.fmod m else ((v * 7919 + k * 104729).fdiv 3).fmod m
theorem mixV_lt {ds : List Int} {k m : Int} (hm : 0 < m) : 0 ≤ mixV ds k m ∧ mixV ds k m < m := by
  unfold mixV
  simp only
  split
  · exact ⟨Int.fmod_nonneg_of_pos _ hm, Int.fmod_lt_of_pos _ hm⟩
  · exact ⟨Int.fmod_nonneg_of_pos _ hm, Int.fmod_lt_of_pos _ hm⟩
open Classical in
noncomputable def gMix : GD := g3 dInts dInt dInt fun ds k m => if Drawn ds ∧ 0 ≤ k ∧ k ≤ 10000 ∧ 0 < m then some (.int (mixV ds k m), false) else none
theorem gMix_ {ds : List Int} {k m : Int} (h1 : Drawn ds) (h2 : 0 ≤ k) (h3 : k ≤ 10000) (h4 : 0 < m) : gMix [ils ds, .int k, .int m] = some (.int (mixV ds k m), false) := by
  simp only [gMix, g3_, dInts_, dInt_, Option.bind_some]
  rw [if_pos ⟨h1, h2, h3, h4⟩]
theorem sm_int {n : Int} (h1 : -1000000000 < n) (h2 : n < 1000000000) : Sm n := by
  have := sm_small (n := n.natAbs) (by omega)
  unfold Sm at this ⊢
  omega
theorem w_mix (ds : List PyData) (d : PyData) (b : Bool) (h : gMix ds = some (d, b)) : T_x_law_mix (endsOf d b) (startE 4 ds) := by
  obtain ⟨_, _, _, ns, k, m, rfl, h1, h2, h3, h4⟩ := g3_inv h
  cases dInts_eq h1
  cases dInt_eq h2
  cases dInt_eq h3
  split at h4
  · rename_i hc
    obtain ⟨⟨hl, hx⟩, k0, k1, m0⟩ := hc
    cases h4
    unfold T_x_law_mix
    have fin : ∀ v : Int, 0 ≤ v → v < 1000000 → v = (if ns = [] then 0 else ns.getD (k.fmod ns.length).toNat 0) →
        pSeq (pIf (fB (fBin oLt (fVarV 1) (fUn oLen (fVar 0)))) (pRetV (fBin oMod (fCall oInt (fCons (fVarV 3) fNil)) (fVarV 2))) pNext)
          (pRetV (fBin oMod (fCall oInt (fCons (fBin oDivZ (fCall oInt (fCons (fBin oAdd (fBin oMul (fVarV 3) (fC (.int 7919))) (fBin oMul (fVarV 1) (fC (.int 104729)))) fNil)) (fC (.int 3))) fNil)) (fVarV 2)))
          (endsOf (.int (mixV ns k m)) false) [some (ils ns, false), some (.int k, false), some (.int m, false), some (.int v, false)] := by
      intro v v0 v1 hv
      refine ⟨decide (k < (ns.length : Int)), by walk_at "pd", ?_⟩
      by_cases hk : k < (ns.length : Int)
      · rw [if_pos (decide_eq_true hk)]
        refine ⟨.int (mixV ns k m), ?_, rfl, rfl⟩
        walk_at "pd"
        rw [if_neg (by omega)]
        unfold mixV
        rw [← hv]
        simp only
        rw [if_pos hk]
      · rw [if_neg (by simpa using hk)]
        refine ⟨.int (mixV ns k m), ?_, rfl, rfl⟩
        walk_at "pd"
        rw [if_pos (mul_sm (sm_int (by omega) (by omega)) (sm_int (by omega) (by omega))), if_pos (mul_sm (sm_int (by omega) (by omega)) (sm_int (by omega) (by omega)))]
        walk_at "pd"
        rw [if_neg (by omega)]
        walk_at "pd"
        rw [if_neg (by omega)]
        unfold mixV
        rw [← hv]
        simp only
        rw [if_neg hk]
    refine ⟨.int 0, rfl, ?_⟩
    refine ⟨decide ((0 : Int) < (ns.length : Int)), by walk_at "pd", ?_⟩
    by_cases hz : ns = []
    · rw [if_neg (by simp [hz])]
      exact fin 0 (by omega) (by omega) (by rw [if_pos hz])
    · have pl : 0 < ns.length := List.length_pos_iff.mpr hz
      rw [if_pos (decide_eq_true (by omega))]
      have hf0 := Int.fmod_nonneg_of_pos k (show (0 : Int) < ns.length by omega)
      have hf1 := Int.fmod_lt_of_pos k (show (0 : Int) < ns.length by omega)
      obtain ⟨j, hj⟩ : ∃ j : Nat, k.fmod ns.length = (j : Int) := ⟨(k.fmod ns.length).toNat, by omega⟩
      have hjl : j < ns.length := by omega
      refine ⟨.int (ns.getD j 0), ?_, ?_⟩
      · walk_at "pd"
        rw [if_neg (by omega)]
        walk_at "pd"
        rw [hj, atI_ints hjl]
      · have hmem : ns.getD j 0 ∈ ns := by rw [co_getD, co_lt hjl]; exact List.getElem_mem hjl
        exact fin (ns.getD j 0) (hx _ hmem).1 (hx _ hmem).2 (by rw [if_neg hz, hj]; rfl)
  · cases h4
/-! ### _law_powers, _law_number, _law_any, _law_is_list, _law_menu -/
def powV (ds : List Int) (k most : Int) : List Int := (List.range 8).map fun (t : Nat) => if mixV ds (k + t) (most + 3) - 2 > 0 then mixV ds (k + t) (most + 3) - 2 else 0
open Classical in
noncomputable def gPowers : GD := g3 dInts dInt dInt fun ds k m => if Drawn ds ∧ 0 ≤ k ∧ k ≤ 1000 ∧ 0 < m then some (ils (powV ds k m), true) else none
theorem gPowers_ {ds : List Int} {k m : Int} (h1 : Drawn ds) (h2 : 0 ≤ k) (h3 : k ≤ 1000) (h4 : 0 < m) : gPowers [ils ds, .int k, .int m] = some (ils (powV ds k m), true) := by
  simp only [gPowers, g3_, dInts_, dInt_, Option.bind_some]
  rw [if_pos ⟨h1, h2, h3, h4⟩]
theorem iR1_8 {env : PEnv} : iR1 (fCons (fC (.int 8)) fNil) env = some (rangeD 0 8) := iR1_len (n := 8) rfl (by omega)
theorem mem_range {n : Nat} {d : PyData} (h : d ∈ rangeD 0 n) : ∃ t : Nat, t < n ∧ d = .int (t : Int) := by
  unfold rangeD at h
  obtain ⟨t, h1, rfl⟩ := List.mem_map.mp h
  exact ⟨t, List.mem_range.mp h1, by rw [Int.zero_add]⟩
theorem range_map {n : Nat} {f : PyData → PyData} {g : Nat → Int} (h : ∀ t : Nat, f (.int (t : Int)) = .int (g t)) : (rangeD 0 n).map f = ((List.range n).map g).map PyData.int := by
  unfold rangeD
  rw [List.map_map, List.map_map]
  apply List.map_congr_left
  intro t _
  show f (.int (0 + (t : Int))) = .int (g t)
  rw [Int.zero_add, h]
theorem w_powers (ds : List PyData) (d : PyData) (b : Bool) (h : gPowers ds = some (d, b)) : T_x_law_powers gMix (endsOf d b) (startE 4 ds) := by
  obtain ⟨_, _, _, ns, k, m, rfl, h1, h2, h3, h4⟩ := g3_inv h
  cases dInts_eq h1
  cases dInt_eq h2
  cases dInt_eq h3
  split at h4
  · rename_i hc
    obtain ⟨hd, k0, k1, m0⟩ := hc
    cases h4
    unfold T_x_law_powers
    refine ⟨(powV ns k m).map PyData.int, ?_, rfl, rfl⟩
    unfold fComp
    rw [iR1_8, Option.bind_some, if_pos (by rw [rangeD_length]; omega), compL_all (fun d => match d with | .int t => .int (if mixV ns (k + t) (m + 3) - 2 > 0 then mixV ns (k + t) (m + 3) - 2 else 0) | _ => .none)]
    · rw [range_map (g := fun (t : Nat) => if mixV ns (k + t) (m + 3) - 2 > 0 then mixV ns (k + t) (m + 3) - 2 else 0) fun t => rfl]
      rfl
    · intro d hd'
      obtain ⟨t, ht, rfl⟩ := mem_range hd'
      refine ⟨_, rfl, ?_⟩
      walk_at "pd"
      rw [gMix_ hd (by omega) (by omega) (by omega)]
      walk_at "pd"
  · cases h4
theorem powV_get {ds : List Int} {k m : Int} (hm : 0 < m) {t : Nat} (ht : t < 8) : 0 ≤ (powV ds k m).getD t 0 ∧ (powV ds k m).getD t 0 ≤ m := by
  have e : (powV ds k m).getD t 0 = if mixV ds (k + t) (m + 3) - 2 > 0 then mixV ds (k + t) (m + 3) - 2 else 0 := by
    unfold powV
    simp [List.getD_eq_getElem?_getD, ht]
  rw [e]
  have := (mixV_lt (ds := ds) (k := k + t) (m := m + 3) (by omega)).2
  split <;> omega
theorem powV_len {ds : List Int} {k m : Int} : (powV ds k m).length = 8 := by simp [powV]
end K78

set_option Elab.async false
set_option linter.all false
set_option maxRecDepth 100000
set_option maxHeartbeats 4000000
set_option autoImplicit false
namespace K78
open PySem PD Pl L2
local macro_rules | `(tactic| walk_at "pd") => `(tactic| simp -implicitDefEqProofs only [pNext_, pSeq_, pDrop_, pMove_, pYoung_, fWhole_, fShort_, pSetV_, pSetF_, pSetG_, pPar_, pItem_, pApp_, pRetV_, pRetF_, pRetN_, pRet0_, pBreak_, pCont_, pIf_, endsOf_rt, endsOf_nx, fC_, fBin_, fUn_, fNil_, fCons_, fTup_, fLst_, fL_, fCall_, fIx_, fO0_, fAnd_, fOr_, fNot_, fIf_, fTru_, fDef_, fYes_, bN_, fVar_, fVarV_, fB_, fO1_, fSl_, fList_, fDefF_, ints?_map, iL_, fAndV_, fOrV_, iR1_, iR2_, iRev1_, dropE_nil, dropE_cons, drop1_, wipeE_nil, wipeE_cons, startE_,
  oI_, oB_, oAdd_, oSub_, oMul_, oDivZ_, oMod_, oPow_, oLt_, oLe_, oGt_, oGe_, oNeg_, oNot_, oIsN_, oEq_int, oNe_int, oEq_ils, oNe_ils, oEq_nil, oNe_nil, oNe_none, oEq_none, oNe_none_ils, oNe_ils_none, oAbs_, oInt_, oIntb_, oMax2_, oMin2_, oLen_, oLenT_, oIx_, oBits_, truI_, g1_, g2_, g3_, dInts_, dInt_, dAny_,
  List.getElem?_cons_zero, List.getElem?_cons_succ, List.set_cons_zero, List.set_cons_succ, Nat.zero_add, Nat.reduceAdd, Nat.reduceSub, List.replicate_succ, List.replicate_zero, Option.bind_some, Option.map_some, List.map_cons, List.map_nil, List.length_cons, List.length_nil, List.cons_append, List.nil_append, List.length_map, Option.some.injEq, exists_eq_left', Bool.false_eq_true, if_true, if_false, decide_true, decide_false, Bool.not_true, Bool.not_false, Bool.true_and, Bool.false_and, and_true, true_and])
/-! ### _law_number -/
def numV (ds : List Int) (k : Int) : Int := [1, -1, 1 + mixV ds k 1000, -(1 + mixV ds k 1000), (1 + mixV ds k 1000) * 10 ^ 12, -12].getD (mixV ds (k + 1) 6).toNat 0
theorem numV_ok (ds : List Int) (k : Int) : numV ds k ≠ 0 ∧ (numV ds k).natAbs ≤ 2 ^ 50 := by
  have h1 := mixV_lt (ds := ds) (k := k) (m := 1000) (by omega)
  have h2 := mixV_lt (ds := ds) (k := k + 1) (m := 6) (by omega)
  unfold numV
  generalize mixV ds k 1000 = a at h1
  generalize mixV ds (k + 1) 6 = j at h2
  have hj : j = 0 ∨ j = 1 ∨ j = 2 ∨ j = 3 ∨ j = 4 ∨ j = 5 := by omega
  rcases hj with rfl | rfl | rfl | rfl | rfl | rfl <;> simp <;> omega
open Classical in
noncomputable def gNumber : GD := g2 dInts dInt fun ds k => if Drawn ds ∧ 0 ≤ k ∧ k ≤ 1000 then some (.int (numV ds k), false) else none
theorem gNumber_ {ds : List Int} {k : Int} (h1 : Drawn ds) (h2 : 0 ≤ k) (h3 : k ≤ 1000) : gNumber [ils ds, .int k] = some (.int (numV ds k), false) := by
  simp only [gNumber, g2_, dInts_, dInt_, Option.bind_some]
  rw [if_pos ⟨h1, h2, h3⟩]
theorem w_number (ds : List PyData) (d : PyData) (b : Bool) (h : gNumber ds = some (d, b)) : T_x_law_number gMix (endsOf d b) (startE 3 ds) := by
  obtain ⟨_, _, ns, k, rfl, h1, h2, h4⟩ := g2_inv h
  cases dInts_eq h1
  cases dInt_eq h2
  split at h4
  · rename_i hc
    obtain ⟨hd, k0, k1⟩ := hc
    cases h4
    unfold T_x_law_number
    have m1 := mixV_lt (ds := ns) (k := k) (m := 1000) (by omega)
    have m2 := mixV_lt (ds := ns) (k := k + 1) (m := 6) (by omega)
    refine ⟨.int (1 + mixV ns k 1000), by walk_at "pd"; rw [gMix_ hd (by omega) (by omega) (by omega)]; walk_at "pd", ?_⟩
    refine ⟨.int (numV ns k), ?_, rfl, rfl⟩
    walk_at "pd"
    rw [if_pos ⟨by omega, by omega, by decide⟩]
    walk_at "pd"
    rw [if_pos (mul_sm (sm_int (by omega) (by omega)) (sm_of (e := 50) (by decide) (by decide)))]
    walk_at "pd"
    rw [if_pos (by omega), gMix_ hd (by omega) (by omega) (by omega)]
    walk_at "pd"
    obtain ⟨j, hj⟩ : ∃ j : Nat, mixV ns (k + 1) 6 = (j : Int) := ⟨(mixV ns (k + 1) 6).toNat, by omega⟩
    have := atI_ints (ns := [1, -1, 1 + mixV ns k 1000, -(1 + mixV ns k 1000), (1 + mixV ns k 1000) * 10 ^ 12, -12]) (k := j) (by simp; omega)
    rw [hj]
    unfold numV
    rw [hj]
    exact this
  · cases h4
/-! ### _law_any -/
def mostV (ds : List Int) (k : Int) : Int := [3, 1000000].getD (mixV ds k 2).toNat 0
def anyV (ds : List Int) (k : Int) : P := trim ((List.range (mixV ds (k + 1) 8).toNat).map fun (t : Nat) => mixV ds (k + 2 + t) (2 * mostV ds k + 1) - mostV ds k)
theorem mostV_ok (ds : List Int) (k : Int) : mostV ds k = 3 ∨ mostV ds k = 1000000 := by
  have h2 := mixV_lt (ds := ds) (k := k) (m := 2) (by omega)
  unfold mostV
  generalize mixV ds k 2 = j at h2
  have hj : j = 0 ∨ j = 1 := by omega
  rcases hj with rfl | rfl <;> simp
theorem anyV_ok (ds : List Int) (k : Int) : Tr (anyV ds k) ∧ (anyV ds k).length ≤ 7 ∧ Bd (anyV ds k) (2 ^ 20) := by
  have h2 := mixV_lt (ds := ds) (k := k + 1) (m := 8) (by omega)
  refine ⟨tr_trim _, ?_, ?_⟩
  · have := trim_length_le ((List.range (mixV ds (k + 1) 8).toNat).map fun (t : Nat) => mixV ds (k + 2 + t) (2 * mostV ds k + 1) - mostV ds k)
    rw [List.length_map, List.length_range] at this
    unfold anyV
    omega
  · unfold anyV
    apply Bd.trim
    intro i
    by_cases hi : i < ((List.range (mixV ds (k + 1) 8).toNat).map fun (t : Nat) => mixV ds (k + 2 + t) (2 * mostV ds k + 1) - mostV ds k).length
    · rw [co_lt hi, List.getElem_map]
      have hm := mostV_ok ds k
      generalize (List.range (mixV ds (k + 1) 8).toNat)[i]'(by simpa using hi) = t
      have := mixV_lt (ds := ds) (k := k + 2 + t) (m := 2 * mostV ds k + 1) (by omega)
      have e : 2 ^ 20 = 1048576 := by decide
      rw [e]
      omega
    · rw [co_ge (by omega)]; simp
open Classical in
noncomputable def gAny : GD := g2 dInts dInt fun ds k => if Drawn ds ∧ 0 ≤ k ∧ k ≤ 1000 then some (ils (anyV ds k), true) else none
theorem gAny_ {ds : List Int} {k : Int} (h1 : Drawn ds) (h2 : 0 ≤ k) (h3 : k ≤ 1000) : gAny [ils ds, .int k] = some (ils (anyV ds k), true) := by
  simp only [gAny, g2_, dInts_, dInt_, Option.bind_some]
  rw [if_pos ⟨h1, h2, h3⟩]
theorem w_any (ds : List PyData) (d : PyData) (b : Bool) (h : gAny ds = some (d, b)) : T_x_law_any gMix gLTrim (endsOf d b) (startE 4 ds) := by
  obtain ⟨_, _, ns, k, rfl, h1, h2, h4⟩ := g2_inv h
  cases dInts_eq h1
  cases dInt_eq h2
  split at h4
  · rename_i hc
    obtain ⟨hd, k0, k1⟩ := hc
    cases h4
    unfold T_x_law_any
    have m1 := mixV_lt (ds := ns) (k := k) (m := 2) (by omega)
    have m2 := mixV_lt (ds := ns) (k := k + 1) (m := 8) (by omega)
    have hm := mostV_ok ns k
    refine ⟨.int (mostV ns k), ?_, ?_⟩
    · walk_at "pd"
      rw [if_pos (by omega), gMix_ hd (by omega) (by omega) (by omega)]
      walk_at "pd"
      obtain ⟨j, hj⟩ : ∃ j : Nat, mixV ns k 2 = (j : Int) := ⟨(mixV ns k 2).toNat, by omega⟩
      have := atI_ints (ns := [3, 1000000]) (k := j) (by simp; omega)
      unfold mostV
      rw [hj]
      exact this
    · refine ⟨(anyV ns k).map PyData.int, ?_, rfl, rfl⟩
      obtain ⟨j, hj⟩ : ∃ j : Nat, mixV ns (k + 1) 8 = (j : Int) := ⟨(mixV ns (k + 1) 8).toNat, by omega⟩
      have e1 : fComp [3] (iR1 (fCons (fDef gMix (fCons (fVarV 0) (fCons (fBin oAdd (fVarV 1) (fC (.int 1))) (fCons (fC (.int 8)) fNil)))) fNil)) (bN 3) fYes
          (fBin oSub (fDef gMix (fCons (fVarV 0) (fCons (fBin oAdd (fBin oAdd (fVarV 1) (fC (.int 2))) (fVarV 3)) (fCons (fBin oAdd (fBin oMul (fC (.int 2)) (fVarV 2)) (fC (.int 1))) fNil)))) (fVarV 2))
          [some (ils ns, false), some (.int k, false), some (.int (mostV ns k), false), none] = some (((List.range j).map fun (t : Nat) => mixV ns (k + 2 + t) (2 * mostV ns k + 1) - mostV ns k).map PyData.int) := by
        unfold fComp
        rw [iR1_len (n := j) (by walk_at "pd"; rw [gMix_ hd (by omega) (by omega) (by omega), hj]; rfl) (by omega), Option.bind_some, if_pos (by rw [rangeD_length]; omega),
          compL_all (fun d => match d with | .int t => .int (mixV ns (k + 2 + t) (2 * mostV ns k + 1) - mostV ns k) | _ => .none)]
        · rw [range_map (g := fun (t : Nat) => mixV ns (k + 2 + t) (2 * mostV ns k + 1) - mostV ns k) fun t => rfl]
        · intro d hd'
          obtain ⟨t, ht, rfl⟩ := mem_range hd'
          refine ⟨_, rfl, ?_⟩
          walk_at "pd"
          rw [if_pos (mul_sm (sm_int (by omega) (by omega)) (sm_int (by omega) (by omega)))]
          walk_at "pd"
          rw [gMix_ hd (by omega) (by omega) (by omega)]
          walk_at "pd"
      rw [fDefF_, fCons_, fNil_, fL_]
      have e2 : ([some (ils ns, false), some (.int k, false), none, none] : PEnv).set 2 (some (.int (mostV ns k), false)) = [some (ils ns, false), some (.int k, false), some (.int (mostV ns k), false), none] := rfl
      have e3 : startE 4 [ils ns, .int k] = ([some (ils ns, false), some (.int k, false), none, none] : PEnv) := rfl
      rw [e3, e2, e1]
      walk_at "pd"
      rw [gLTrim_ (by rw [List.length_map, List.length_range]; omega)]
      unfold anyV
      rw [hj]
      rfl
  · cases h4
/-! ### _law_is_list, _law_menu -/
def gIsList : GD := g1 dInts fun p => if p.length ≤ 100000 then some (.bool true, false) else none
theorem gIsList_ {p : P} (h : p.length ≤ 100000) : gIsList [ils p] = some (.bool true, false) := by
  simp only [gIsList, g1_, dInts_, Option.bind_some, if_pos h]
theorem w_is_list (ds : List PyData) (d : PyData) (b : Bool) (h : gIsList ds = some (d, b)) : T_x_law_is_list (endsOf d b) (startE 2 ds) := by
  obtain ⟨_, p, rfl, h1, h3⟩ := g1_inv h
  cases dInts_eq h1
  split at h3
  · rename_i hl
    cases h3
    unfold T_x_law_is_list
    refine ⟨.bool true, ?_, rfl, rfl⟩
    have e1 : fComp [1] (iL (fVarV 0)) (bN 1) (fOr (fNot (fB (fUn (oIsi "int") (fVarV 1)))) (fB (fUn (oIsi "bool") (fVarV 1)))) (fVarV 1) (startE 2 [ils p]) = some [] := by
      unfold fComp
      walk_at "pd"
      rw [if_pos (by omega), compL_map (fun _ => false) id]
      · simp
      · intro d hd
        obtain ⟨n, hn, rfl⟩ := List.mem_map.mp hd
        refine ⟨_, rfl, ?_, fun z => nomatch z⟩
        walk_at "pd"
        rw [isi_int, isi_bool_int]
        walk_at "pd"
    rw [fAndV_, fUn_, fBin_, fE, fL_, e1]
    walk_at "pd"
    rw [isi_list]
    walk_at "pd"
    exact oEq_ils (p := []) (q := [])
  · cases h3
def menuP : List P := [[0, 1], [1, 1], [-2, 1], [3, 2], [1, 0, 1], [1, 1, 1], [2, 0, 1], [-2, 0, 0, 1]]
def gMenu : GD := fun ds => match ds with
  | [] => some (.list (menuP.map fun p => ils p), true)
  | _ => none
theorem w_menu (ds : List PyData) (d : PyData) (b : Bool) (h : gMenu ds = some (d, b)) : T_x_law_menu (endsOf d b) (startE 0 ds) := by
  cases ds with
  | nil =>
    cases h
    unfold T_x_law_menu
    refine ⟨menuP.map fun p => ils p, ?_, rfl, rfl⟩
    walk_at "pd"
    simp only [Nat.reduceLeDiff, if_true, Option.map_some, Option.bind_some]
    rfl
  | cons a r => cases h
end K78

set_option Elab.async false
set_option linter.all false
set_option maxRecDepth 100000
set_option maxHeartbeats 4000000
set_option autoImplicit false
namespace K78
open PySem PD Pl L2
local macro_rules | `(tactic| walk_at "pd") => `(tactic| simp -implicitDefEqProofs only [pNext_, pSeq_, pDrop_, pMove_, pYoung_, fWhole_, fShort_, pSetV_, pSetF_, pSetG_, pPar_, pItem_, pApp_, pRetV_, pRetF_, pRetN_, pRet0_, pBreak_, pCont_, pIf_, endsOf_rt, endsOf_nx, fC_, fBin_, fUn_, fNil_, fCons_, fTup_, fLst_, fL_, fCall_, fIx_, fO0_, fAnd_, fOr_, fNot_, fIf_, fTru_, fDef_, fYes_, bN_, fVar_, fVarV_, fB_, fO1_, fSl_, fList_, fDefF_, ints?_map, iL_, fAndV_, fOrV_, iR1_, iR2_, iRev1_, dropE_nil, dropE_cons, drop1_, wipeE_nil, wipeE_cons, startE_,
  oI_, oB_, oAdd_, oSub_, oMul_, oDivZ_, oMod_, oPow_, oLt_, oLe_, oGt_, oGe_, oNeg_, oNot_, oIsN_, oEq_int, oNe_int, oEq_ils, oNe_ils, oEq_nil, oNe_nil, oNe_none, oEq_none, oNe_none_ils, oNe_ils_none, oAbs_, oInt_, oIntb_, oMax2_, oMin2_, oLen_, oLenT_, oIx_, oBits_, truI_, g1_, g2_, g3_, dInts_, dInt_, dAny_,
  List.getElem?_cons_zero, List.getElem?_cons_succ, List.set_cons_zero, List.set_cons_succ, Nat.zero_add, Nat.reduceAdd, Nat.reduceSub, List.replicate_succ, List.replicate_zero, Option.bind_some, Option.map_some, List.map_cons, List.map_nil, List.length_cons, List.length_nil, List.cons_append, List.nil_append, List.length_map, Option.some.injEq, exists_eq_left', Bool.false_eq_true, if_true, if_false, decide_true, decide_false, Bool.not_true, Bool.not_false, Bool.true_and, Bool.false_and, and_true, true_and])
/-! ### _law_draws -/
theorem fmodN (a b : Nat) : Int.fmod (a : Int) (b : Int) = ((a % b : Nat) : Int) := by
  rw [Int.fmod_eq_emod_of_nonneg _ (by omega)]; rfl
theorem fdivN (a b : Nat) : Int.fdiv (a : Int) (b : Int) = ((a / b : Nat) : Int) := by
  rw [Int.fdiv_eq_ediv_of_nonneg _ (by omega)]; rfl
def bigDraws (a n : Nat) : List Int := (List.range n).flatMap fun j => if 0 < a / 65536 ^ j then [((a / 65536 ^ j % 65536 : Nat) : Int)] else []
def mix1 (k a : Nat) : Nat := (a * 48271 + (k + 1) * 69621) % 2147483647
def mix2 (k a : Nat) : Nat := (mix1 k a * 16807 + 11 * k + 5) % 2147483629
def drawOne (k a : Nat) : List Int := if 10 ^ 18 ≤ a then bigDraws a 60 else [((mix2 k a % 65536 : Nat) : Int), ((mix2 k a / 65536 % 32768 : Nat) : Int)]
def drawsTo (s : List Int) (n : Nat) : List Int := (List.range n).flatMap fun k => drawOne k (s.getD k 0).natAbs
theorem bigDraws_succ (a n : Nat) : bigDraws a (n + 1) = bigDraws a n ++ (if 0 < a / 65536 ^ n then [((a / 65536 ^ n % 65536 : Nat) : Int)] else []) := by
  unfold bigDraws
  rw [List.range_succ, List.flatMap_append]
  simp
theorem drawsTo_succ (s : List Int) (n : Nat) : drawsTo s (n + 1) = drawsTo s n ++ drawOne n (s.getD n 0).natAbs := by
  unfold drawsTo
  rw [List.range_succ, List.flatMap_append]
  simp
theorem bigDraws_ok (a : Nat) : ∀ n, (bigDraws a n).length ≤ n ∧ ∀ x ∈ bigDraws a n, 0 ≤ x ∧ x < 1000000
  | 0 => ⟨Nat.le_refl _, fun x hx => by simp [bigDraws] at hx⟩
  | n + 1 => by
    obtain ⟨h1, h2⟩ := bigDraws_ok a n
    rw [bigDraws_succ]
    split
    · refine ⟨by rw [List.length_append]; simp; omega, fun x hx => ?_⟩
      rcases List.mem_append.mp hx with hx | hx
      · exact h2 x hx
      · rw [List.mem_singleton.mp hx]
        have := Nat.mod_lt (a / 65536 ^ n) (show 0 < 65536 by omega)
        omega
    · simp only [List.append_nil]; exact ⟨by omega, h2⟩
theorem drawOne_ok (k a : Nat) : (drawOne k a).length ≤ 60 ∧ ∀ x ∈ drawOne k a, 0 ≤ x ∧ x < 1000000 := by
  unfold drawOne
  split
  · exact bigDraws_ok a 60
  · refine ⟨by simp, fun x hx => ?_⟩
    have h1 := Nat.mod_lt (mix2 k a) (show 0 < 65536 by omega)
    have h2 := Nat.mod_lt (mix2 k a / 65536) (show 0 < 32768 by omega)
    rcases List.mem_cons.mp hx with rfl | hx
    · omega
    · rw [List.mem_singleton.mp hx]; omega
theorem drawsTo_ok (s : List Int) : ∀ n, (drawsTo s n).length ≤ 60 * n ∧ ∀ x ∈ drawsTo s n, 0 ≤ x ∧ x < 1000000
  | 0 => ⟨Nat.le_refl _, fun x hx => by simp [drawsTo] at hx⟩
  | n + 1 => by
    obtain ⟨h1, h2⟩ := drawsTo_ok s n
    obtain ⟨h3, h4⟩ := drawOne_ok n (s.getD n 0).natAbs
    rw [drawsTo_succ]
    refine ⟨by rw [List.length_append]; omega, fun x hx => ?_⟩
    rcases List.mem_append.mp hx with hx | hx
    · exact h2 x hx
    · exact h4 x hx
def gDraws : GD := g1 dInts fun s => if s.length ≤ 63 then some (ils (drawsTo s s.length), true) else none
theorem gDraws_ {s : List Int} (h : s.length ≤ 63) : gDraws [ils s] = some (ils (drawsTo s s.length), true) := by
  simp only [gDraws, g1_, dInts_, Option.bind_some, if_pos h]
theorem drawn_ok {s : List Int} (h : s.length ≤ 63) : Drawn (drawsTo s s.length) := by
  obtain ⟨h1, h2⟩ := drawsTo_ok s s.length
  exact ⟨by omega, h2⟩
theorem w_draws (ds : List PyData) (d : PyData) (b : Bool) (h : gDraws ds = some (d, b)) : T_x_law_draws (endsOf d b) (startE 6 ds) := by
  obtain ⟨_, s, rfl, h1, h3⟩ := g1_inv h
  cases dInts_eq h1
  split at h3
  · rename_i hl
    cases h3
    have ea : ∀ a : Int, (if a < 0 then -a else a) = (a.natAbs : Int) := fun a => by split <;> omega
    unfold T_x_law_draws
    refine ⟨[], by rw [fLst_, fNil_, Option.bind_some, if_pos (by decide)], ?_⟩
    refine ⟨_, iR1_len (n := s.length) ?_ (by omega), fun i env => ∃ y2 y3 y4 y5, env = [some (ils s, false), some (ils (drawsTo s i), true), y2, y3, y4, y5], ⟨none, none, none, none, rfl⟩, ?_, ?_⟩
    · walk_at "pd"
      by_cases hz : (s.length : Int) < 63
      · rw [if_pos hz]
      · have e63 : (s.length : Int) = 63 := by omega
        rw [if_neg hz, e63]
    · rintro i _ _ hd ⟨y2, y3, y4, y5, rfl⟩
      obtain ⟨hi, rfl⟩ := rangeD_get hd
      rw [Int.zero_add]
      obtain ⟨o1, _⟩ := drawsTo_ok s i
      obtain ⟨a, ha⟩ : ∃ a, a = (s.getD i 0).natAbs := ⟨_, rfl⟩
      refine ⟨_, rfl, ?_⟩
      refine ⟨.int a, by walk_at "pd"; rw [atI_ints hi]; walk_at "pd"; rw [ea, ha], ?_⟩
      have e18 : (10 : Int) ^ (18 : Int).toNat = ((10 ^ 18 : Nat) : Int) := by decide
      refine ⟨decide (((10 ^ 18 : Nat) : Int) ≤ (a : Int)), ?_, ?_⟩
      · walk_at "pd"
        rw [if_pos ⟨by omega, by omega, by decide⟩, e18]
        walk_at "pd"
      · by_cases hb : 10 ^ 18 ≤ a
        · rw [if_pos (decide_eq_true (Int.ofNat_le.mpr hb))]
          have hone : drawsTo s (i + 1) = drawsTo s i ++ bigDraws a 60 := by
            rw [drawsTo_succ, ← ha]
            unfold drawOne
            rw [if_pos hb]
          refine ⟨_, iR1_len (n := 60) rfl (by omega), fun j env => ∃ y4, env = [some (ils s, false), some (ils (drawsTo s i ++ bigDraws a j), true), some (.int i, false), some (.int ((a / 65536 ^ j : Nat) : Int), false), y4, y5],
            ⟨y4, by simp [bigDraws]⟩, ?_, ?_⟩
          · rintro j _ _ hj ⟨y4, rfl⟩
            obtain ⟨hj, rfl⟩ := rangeD_get hj
            have hsucc := bigDraws_succ a j
            have ep : a / 65536 ^ (j + 1) = a / 65536 ^ j / 65536 := by rw [Nat.pow_succ, Nat.div_div_eq_div_mul]
            simp only [ep]
            generalize a / 65536 ^ j = r at hsucc
            refine ⟨_, rfl, decide ((0 : Int) < (r : Int)), by walk_at "pd", ?_⟩
            obtain ⟨q1, _⟩ := bigDraws_ok a j
            by_cases hz : 0 < r
            · rw [if_pos (decide_eq_true (by omega))]
              refine ⟨.int ((r % 65536 : Nat) : Int), (drawsTo s i ++ bigDraws a j).map PyData.int, ?_, rfl, ?_, ?_⟩
              · walk_at "pd"
                rw [if_neg (by omega)]
                exact congrArg (fun z => some (PyData.int z)) (fmodN _ 65536)
              · rw [List.length_map, List.length_append]; omega
              · refine ⟨.int ((r / 65536 : Nat) : Int), ?_, ?_⟩
                · walk_at "pd"
                  rw [if_neg (by omega)]
                  exact congrArg (fun z => some (PyData.int z)) (fdivN _ 65536)
                · refine ⟨some (.int (0 + (j : Int)), false), ?_⟩
                  walk_at "pd"
                  rw [hsucc, if_pos hz]
                  simp
            · rw [if_neg (by simp; omega)]
              refine ⟨some (.int (0 + (j : Int)), false), ?_⟩
              have z0 : r = 0 := by omega
              rw [hsucc, if_neg hz, z0]
              simp
          · rintro _ ⟨y4, rfl⟩
            rw [rangeD_length]
            exact ⟨_, _, _, _, by rw [hone]⟩
        · rw [if_neg (by simp only [decide_eq_true_eq]; exact fun z => hb (Int.ofNat_le.mp z))]
          have ha18 : a < 10 ^ 18 := by omega
          have hone : drawsTo s (i + 1) = drawsTo s i ++ [((mix2 i a % 65536 : Nat) : Int), ((mix2 i a / 65536 % 32768 : Nat) : Int)] := by
            rw [drawsTo_succ, ← ha]
            unfold drawOne
            rw [if_neg hb]
          have sa : Sm (a : Int) := sm_of (e := 60) (by show a ≤ 2 ^ 60; have : (10 : Nat) ^ 18 ≤ 2 ^ 60 := by decide
                                                        omega) (by decide)
          have m1lt : mix1 i a < 2147483647 := Nat.mod_lt _ (by omega)
          have sm1 : Sm (mix1 i a : Int) := sm_of (e := 31) (by show mix1 i a ≤ 2 ^ 31; have : (2 : Nat) ^ 31 = 2147483648 := by decide
                                                                omega) (by decide)
          refine ⟨.int (mix1 i a : Nat), ?_, .int (mix2 i a : Nat), ?_, .int ((mix2 i a % 65536 : Nat) : Int), (drawsTo s i).map PyData.int, ?_, rfl, ?_, .int ((mix2 i a / 65536 % 32768 : Nat) : Int), (drawsTo s i ++ [((mix2 i a % 65536 : Nat) : Int)]).map PyData.int, ?_, ?_, ?_, ?_⟩
          · walk_at "pd"
            rw [if_pos (mul_sm sa (sm_int (by omega) (by omega))), if_pos (mul_sm (sm_int (by omega) (by omega)) (sm_int (by omega) (by omega)))]
            walk_at "pd"
            rw [if_neg (by omega)]
            have e : (a : Int) * 48271 + ((i : Int) + 1) * 69621 = ((a * 48271 + (i + 1) * 69621 : Nat) : Int) := by omega
            rw [e]
            exact congrArg (fun z => some (PyData.int z)) (fmodN _ 2147483647)
          · walk_at "pd"
            rw [if_pos (mul_sm sm1 (sm_int (by omega) (by omega))), if_pos (mul_sm (sm_int (by omega) (by omega)) (sm_int (by omega) (by omega)))]
            walk_at "pd"
            rw [if_neg (by omega)]
            have e : (mix1 i a : Int) * 16807 + 11 * (i : Int) + 5 = ((mix1 i a * 16807 + 11 * i + 5 : Nat) : Int) := by omega
            rw [e]
            exact congrArg (fun z => some (PyData.int z)) (fmodN _ 2147483629)
          · walk_at "pd"
            rw [if_neg (by omega)]
            exact congrArg (fun z => some (PyData.int z)) (fmodN _ 65536)
          · rw [List.length_map]; omega
          · walk_at "pd"
            rw [if_neg (by omega)]
            walk_at "pd"
            rw [if_neg (by omega)]
            have e := fdivN (mix2 i a) 65536
            have e2 := fmodN (mix2 i a / 65536) 32768
            rw [← e] at e2
            exact congrArg (fun z => some (PyData.int z)) e2
          · walk_at "pd"
            simp
          · rw [List.length_map, List.length_append]; simp; omega
          · refine ⟨some (.int (i : Int), false), some (.int (a : Int), false), y4, some (.int (mix2 i a : Nat), false), ?_⟩
            walk_at "pd"
            rw [hone]
            simp
    · rintro _ ⟨y2, y3, y4, y5, rfl⟩
      rw [rangeD_length]
      exact ⟨_, _, rfl, rfl, rfl⟩
  · cases h3
end K78

set_option Elab.async false
set_option linter.all false
set_option maxRecDepth 100000
set_option maxHeartbeats 4000000
set_option autoImplicit false
namespace K78
open PySem PD Pl L2
local macro_rules | `(tactic| walk_at "pd") => `(tactic| simp -implicitDefEqProofs only [pNext_, pSeq_, pDrop_, pMove_, pYoung_, fWhole_, fShort_, pSetV_, pSetF_, pSetG_, pPar_, pItem_, pApp_, pRetV_, pRetF_, pRetN_, pRet0_, pBreak_, pCont_, pIf_, endsOf_rt, endsOf_nx, fC_, fBin_, fUn_, fNil_, fCons_, fTup_, fLst_, fL_, fCall_, fIx_, fO0_, fAnd_, fOr_, fNot_, fIf_, fTru_, fDef_, fYes_, bN_, fVar_, fVarV_, fB_, fO1_, fSl_, fList_, fDefF_, ints?_map, iL_, fAndV_, fOrV_, iR1_, iR2_, iRev1_, dropE_nil, dropE_cons, drop1_, wipeE_nil, wipeE_cons, startE_,
  oI_, oB_, oAdd_, oSub_, oMul_, oDivZ_, oMod_, oPow_, oLt_, oLe_, oGt_, oGe_, oNeg_, oNot_, oIsN_, oEq_int, oNe_int, oEq_ils, oNe_ils, oEq_nil, oNe_nil, oNe_none, oEq_none, oNe_none_ils, oNe_ils_none, oAbs_, oInt_, oIntb_, oMax2_, oMin2_, oLen_, oLenT_, oIx_, oBits_, truI_, g1_, g2_, g3_, dInts_, dInt_, dAny_,
  List.getElem?_cons_zero, List.getElem?_cons_succ, List.set_cons_zero, List.set_cons_succ, Nat.zero_add, Nat.reduceAdd, Nat.reduceSub, List.replicate_succ, List.replicate_zero, Option.bind_some, Option.map_some, List.map_cons, List.map_nil, List.length_cons, List.length_nil, List.cons_append, List.nil_append, List.length_map, Option.some.injEq, exists_eq_left', Bool.false_eq_true, if_true, if_false, decide_true, decide_false, Bool.not_true, Bool.not_false, Bool.true_and, Bool.false_and, and_true, true_and])
/-! ### _law_built -/
def expo (ps : List Int) : Nat → Nat := fun t => (ps.getD t 0).toNat
def okBuilt (n : Int) (ps : List Int) : Prop := n ≠ 0 ∧ n.natAbs ≤ 2 ^ 50 ∧ ps.length = 8 ∧ ∀ t, t < 8 → 0 ≤ ps.getD t 0 ∧ ps.getD t 0 ≤ 3
open Classical in
noncomputable def gBuilt : GD := g2 dInt dInts fun n ps => if okBuilt n ps then some (ils (smul n (prodF menuL (expo ps))), false) else none
theorem gBuilt_ {n : Int} {ps : List Int} (h : okBuilt n ps) : gBuilt [.int n, ils ps] = some (ils (smul n (prodF menuL (expo ps))), false) := by
  simp only [gBuilt, g2_, dInts_, dInt_, Option.bind_some]
  rw [if_pos h]
theorem menu_at {i : Nat} (h : i < 8) : atI (menuP.map fun p => ils p) (i : Int) = some (ils (menuL.getD i [])) := by
  apply atI_list
  have : i < menuP.length := h
  rw [List.getElem?_map, List.getElem?_eq_getElem this]
  have e : menuL.getD i [] = menuP[i] := by
    show menuP.getD i [] = _
    rw [List.getD_eq_getElem?_getD, List.getElem?_eq_getElem this]; rfl
  rw [e]; rfl
theorem good_sml {p : P} {c : Nat} (h : Good p c) (hc : c ≤ 100000) : SmL p := sml_of h.bd (by show _ < 60000000; omega)
theorem menu_sml {i : Nat} (h : i < 8) : SmL (menuL.getD i []) := sml_of (e := 2) ((menu_bd (menu_mem h)).mono (by decide)) (by decide)
theorem w_built (ds : List PyData) (d : PyData) (b : Bool) (h : gBuilt ds = some (d, b)) : T_x_law_built gTimes gMenu (endsOf d b) (startE 5 ds) := by
  obtain ⟨_, _, n, ps, rfl, h1, h2, h4⟩ := g2_inv h
  cases dInt_eq h1
  cases dInts_eq h2
  split at h4
  · rename_i hc
    obtain ⟨hn, hb, hl, hp⟩ := hc
    cases h4
    have he : ∀ t, t < 8 → expo ps t ≤ 3 := fun t ht => by
      have := hp t ht
      show (ps.getD t 0).toNat ≤ 3
      omega
    unfold T_x_law_built
    refine ⟨ils [n], ?_, ?_⟩
    · rw [fL_, fLst_]
      walk_at "pd"
      rw [if_pos (by omega)]
      rfl
    · refine ⟨_, iR1_8, fun i env => i ≤ 8 ∧ ∃ y3 y4, env = [some (.int n, false), some (ils ps, false), some (ils (builtTo n (expo ps) i), false), y3, y4], ⟨by omega, none, none, rfl⟩, ?_, ?_⟩
      · rintro i _ _ hd ⟨_, y3, y4, rfl⟩
        obtain ⟨hi, rfl⟩ := rangeD_get hd
        rw [Int.zero_add]
        refine ⟨_, rfl, ?_⟩
        have hpi := hp i hi
        have G := good_built hn hb he i (by omega)
        have hei : ps.getD i 0 = (expo ps i : Int) := by show _ = (((ps.getD i 0).toNat : Nat) : Int); omega
        refine ⟨_, iR1_len (n := expo ps i) (by walk_at "pd"; rw [atI_ints (by omega), hei]) (by have := he i hi; omega), fun j env => ∃ y4, env = [some (.int n, false), some (ils ps, false), some (ils (itM (menuL.getD i []) j (builtTo n (expo ps) i)), false), some (.int i, false), y4],
          ⟨y4, rfl⟩, ?_, ?_⟩
        · rintro j _ _ hj ⟨y4, rfl⟩
          obtain ⟨hj, rfl⟩ := rangeD_get hj
          have hei3 := he i hi
          have Gj := good_it (menu_mem hi) G j (by omega)
          have gl := Gj.len
          refine ⟨_, rfl, ?_⟩
          refine ⟨ils (itM (menuL.getD i []) (j + 1) (builtTo n (expo ps) i)), ?_, _, rfl⟩
          rw [fDef_, fCons_, fVarV_, fCons_, fIx_, fDef_, fNil_]
          walk_at "pd"
          simp only [gMenu, Option.map_some, Option.bind_some]
          walk_at "pd"
          rw [menu_at hi]
          walk_at "pd"
          rw [gTimes_ (by omega) (by have := (menu_small _ (menu_mem hi)).1; omega) (good_sml Gj (by omega)) (menu_sml hi)]
          rfl
        · rintro _ ⟨y4, rfl⟩
          rw [rangeD_length]
          exact ⟨by omega, _, _, rfl⟩
      · rintro _ ⟨_, y3, y4, rfl⟩
        rw [rangeD_length, built_eq hn hb he]
        exact ⟨_, _, rfl, rfl, rfl⟩
  · cases h4
/-! ### often -/
def okOften (a t : P) : Prop := Tr a ∧ a ≠ [] ∧ Tr t ∧ 2 ≤ t.length ∧ a.length ≤ 1000 ∧ t.length ≤ 1000 ∧ ∃ s, Bd t (2 ^ s) ∧ (s + 1) * (a.length + 2) ≤ big ∧ ∀ k q, Tr q → (∀ x, ev a x = ev q x * ev t x ^ k) → Bd q (2 ^ s)
open Classical in
noncomputable def gOften : GD := g2 dInts dInts fun a t => if okOften a t then some (.int (oftenV a t : Nat), false) else none
theorem gOften_ {a t : P} (h : okOften a t) : gOften [ils a, ils t] = some (.int (oftenV a t : Nat), false) := by
  simp only [gOften, g2_, dInts_, Option.bind_some]
  rw [if_pos h]
theorem w_often (ds : List PyData) (d : PyData) (b : Bool) (h : gOften ds = some (d, b)) : T_often gDiv (endsOf d b) (startE 4 ds) := by
  obtain ⟨_, _, a, t, rfl, h1, h2, h4⟩ := g2_inv h
  cases dInts_eq h1
  cases dInts_eq h2
  split at h4
  · rename_i hc
    obtain ⟨ta, na, tt, l2, la, lt, s, bt, hs, hq⟩ := hc
    cases h4
    have nt : t ≠ [] := fun z => by rw [z] at l2; simp at l2
    have ok : ∀ q k, Tr q → q.length ≤ a.length → (∀ x, ev a x = ev q x * ev t x ^ k) → okDiv q t := fun q k tq lq e =>
      ⟨tq, tt, nt, by omega, lt, s, hq k q tq e, bt, Nat.le_trans (Nat.mul_le_mul_left _ (by omega)) hs⟩
    unfold T_often
    refine ⟨.int 0, rfl, ?_⟩
    refine ⟨(optD (quo a t)).1, by walk_at "pd"; rw [gDiv_ (ok a 0 ta (by omega) fun x => by simp)]; rfl, ?_⟩
    refine ⟨fun m env => ∃ (c : Nat), ∃ q n, env = [some (ils a, false), some (ils t, false), some (.int c, false), some ((optD (quo q t)).1, false)] ∧ q.length = m ∧ Tr q ∧ q ≠ [] ∧ q.length ≤ a.length ∧ q.length ≤ n ∧ (∀ x, ev a x = ev q x * ev t x ^ c) ∧ c + oftenGo n q t = oftenV a t,
      ⟨a.length, 0, a, a.length + 5, rfl, rfl, ta, na, Nat.le_refl _, by omega, fun x => by simp, Nat.zero_add _⟩, ?_⟩
    rintro m _ ⟨c, q, n, rfl, rfl, tq, nq, lq, hn, he, ho⟩
    have pq : 0 < q.length := List.length_pos_iff.mpr nq
    cases n with
    | zero => omega
    | succ n =>
      cases hqq : quo q t with
      | none =>
        refine ⟨false, rfl, ?_⟩
        rw [if_neg (by simp)]
        rw [oftenGo, hqq] at ho
        refine ⟨_, _, rfl, ?_, rfl⟩
        have ho : c + 0 = oftenV a t := ho
        rw [← ho]; rfl
      | some q' =>
        obtain ⟨k1, k2, k3, k4⟩ := quo_shorter tq nq tt l2 hqq
        have e2 : ∀ x, ev a x = ev q' x * ev t x ^ (c + 1) := fun x => by rw [he x, k4 x, Int.pow_succ]; grind
        refine ⟨true, rfl, ?_⟩
        rw [if_pos rfl]
        refine ⟨.int ((c + 1 : Nat) : Int), by walk_at "pd"; rfl, ?_⟩
        refine ⟨(optD (quo q' t)).1, ?_, ?_⟩
        · walk_at "pd"
          simp only [optD]
          rw [gDiv_ (ok q' (c + 1) k1 (by omega) e2)]
          rfl
        · rw [oftenGo, hqq] at ho
          have ho : c + (1 + oftenGo n q' t) = oftenV a t := ho
          exact ⟨q'.length, k3, c + 1, q', n, rfl, rfl, k1, k2, by omega, by omega, e2, by omega⟩
  · cases h4
/-! ### squarefree -/
def okSq (p : P) : Prop := p.length ≤ 1000 ∧ Tr p ∧ SmL (prim p) ∧ okGcd (prim p) (der (prim p)) ∧ okDiv (prim p) (gcdP (prim p) (der (prim p)))
open Classical in
noncomputable def gSq : GD := g1 dInts fun p => if okSq p then (quo (prim p) (gcdP (prim p) (der (prim p)))).map fun q => (ils q, true) else none
theorem gSq_ {p q : P} (h : okSq p) (hq : quo (prim p) (gcdP (prim p) (der (prim p))) = some q) : gSq [ils p] = some (ils q, true) := by
  simp only [gSq, g1_, dInts_, Option.bind_some]
  rw [if_pos h, hq]
  rfl
theorem w_sq (ds : List PyData) (d : PyData) (b : Bool) (h : gSq ds = some (d, b)) : T_squarefree gPrim gDiv gGcd (endsOf d b) (startE 3 ds) := by
  obtain ⟨_, p, rfl, h1, h4⟩ := g1_inv h
  cases dInts_eq h1
  split at h4
  · rename_i hc
    obtain ⟨lp, tp, sp, okg, okd⟩ := hc
    obtain ⟨q, hq, h5⟩ := Option.map_eq_some_iff.mp h4
    cases h5
    have lpr := prim_length p tp
    unfold T_squarefree
    refine ⟨ils (prim p), by walk_at "pd"; rw [gPrim_ (by omega)]; rfl, ?_⟩
    have e1 : fComp [2] (iR2 (fCons (fC (.int 1)) (fCons (fUn oLen (fVar 1)) fNil))) (bN 2) fYes (fBin oMul (fVarV 2) (fIx (fVar 1) (fVarV 2))) [some (ils p, false), some (ils (prim p), false), none] = some ((der (prim p)).map PyData.int) := by
      have e2 : iR2 (fCons (fC (.int 1)) (fCons (fUn oLen (fVar 1)) fNil)) [some (ils p, false), some (ils (prim p), false), none] = some (rangeD 1 ((prim p).length - 1)) := by
        rw [iR2_]
        walk_at "pd"
        rw [if_pos ⟨⟨by omega, by omega⟩, by omega, by omega⟩]
        congr 2
        omega
      unfold fComp
      rw [e2, Option.bind_some, if_pos (by rw [rangeD_length]; omega), compL_all (fun d => match d with | .int t => .int (t * co (prim p) t.toNat) | _ => .none)]
      · rw [der_eq]
        unfold rangeD
        rw [List.map_map, List.map_map]
        congr 1
        apply List.map_congr_left
        intro i _
        show PyData.int ((1 + (i : Int)) * co (prim p) (1 + (i : Int)).toNat) = PyData.int (((i : Int) + 1) * co (prim p) (i + 1))
        have e3 : (1 + (i : Int)).toNat = i + 1 := by omega
        rw [e3, Int.add_comm]
      · intro d hd
        unfold rangeD at hd
        obtain ⟨i, hi, rfl⟩ := List.mem_map.mp hd
        have hi := List.mem_range.mp hi
        have e3 : (1 + (i : Int)) = ((i + 1 : Nat) : Int) := by omega
        refine ⟨_, rfl, ?_⟩
        rw [e3]
        walk_at "pd"
        rw [atI_ints (by omega)]
        walk_at "pd"
        rw [if_pos (mul_sm (sm_small (by omega)) (sm_co sp (by omega)))]
        rfl
    refine ⟨q.map PyData.int, ?_, rfl, rfl⟩
    have e0 : (startE 3 [ils p]).set 1 (some (ils (prim p), false)) = ([some (ils p, false), some (ils (prim p), false), none] : PEnv) := rfl
    rw [e0, fDefF_, fCons_, fCons_, fDef_, fCons_, fCons_, fL_, e1]
    walk_at "pd"
    rw [gGcd_ okg]
    walk_at "pd"
    rw [gDiv_ okd, hq]
    rfl
  · cases h4
end K78

set_option Elab.async false
set_option linter.all false
set_option maxRecDepth 100000
set_option maxHeartbeats 4000000
set_option autoImplicit false
namespace K78
open PySem PD Pl L2
local macro_rules | `(tactic| walk_at "pd") => `(tactic| simp -implicitDefEqProofs only [pNext_, pSeq_, pDrop_, pMove_, pYoung_, fWhole_, fShort_, pSetV_, pSetF_, pSetG_, pPar_, pItem_, pApp_, pRetV_, pRetF_, pRetN_, pRet0_, pBreak_, pCont_, pIf_, endsOf_rt, endsOf_nx, fC_, fBin_, fUn_, fNil_, fCons_, fTup_, fLst_, fL_, fCall_, fIx_, fO0_, fAnd_, fOr_, fNot_, fIf_, fTru_, fDef_, fYes_, bN_, fVar_, fVarV_, fB_, fO1_, fSl_, fList_, fDefF_, ints?_map, iL_, fAndV_, fOrV_, iR1_, iR2_, iRev1_, dropE_nil, dropE_cons, drop1_, wipeE_nil, wipeE_cons, startE_,
  oI_, oB_, oAdd_, oSub_, oMul_, oDivZ_, oMod_, oPow_, oLt_, oLe_, oGt_, oGe_, oNeg_, oNot_, oIsN_, oEq_int, oNe_int, oEq_ils, oNe_ils, oEq_nil, oNe_nil, oNe_none, oEq_none, oNe_none_ils, oNe_ils_none, oAbs_, oInt_, oIntb_, oMax2_, oMin2_, oLen_, oLenT_, oIx_, oBits_, truI_, g1_, g2_, g3_, dInts_, dInt_, dAny_,
  List.getElem?_cons_zero, List.getElem?_cons_succ, List.set_cons_zero, List.set_cons_succ, Nat.zero_add, Nat.reduceAdd, Nat.reduceSub, List.replicate_succ, List.replicate_zero, Option.bind_some, Option.map_some, List.map_cons, List.map_nil, List.length_cons, List.length_nil, List.cons_append, List.nil_append, List.length_map, Option.some.injEq, exists_eq_left', Bool.false_eq_true, if_true, if_false, decide_true, decide_false, Bool.not_true, Bool.not_false, Bool.true_and, Bool.false_and, and_true, true_and])
/-! ### _law_others_told -/
theorem mul_length_le : ∀ (p q : P), (mul p q).length ≤ p.length + q.length
  | [], q => by simp [mul]
  | a :: p, q => by
    have ih := mul_length_le p q
    have e : mul (a :: p) q = add (smul a q) (0 :: mul p q) := rfl
    rw [e, add_length, smul_length, List.length_cons, List.length_cons]
    omega
theorem anyMul_ok (ds : List Int) (j k : Int) : Tr (trim (mul (anyV ds j) (anyV ds k))) ∧ (trim (mul (anyV ds j) (anyV ds k))).length ≤ 14 ∧ Bd (trim (mul (anyV ds j) (anyV ds k))) (2 ^ 43) := by
  obtain ⟨_, l1, b1⟩ := anyV_ok ds j
  obtain ⟨_, l2, b2⟩ := anyV_ok ds k
  refine ⟨tr_trim _, ?_, ?_⟩
  · have := trim_length_le (mul (anyV ds j) (anyV ds k))
    have := mul_length_le (anyV ds j) (anyV ds k)
    omega
  · apply Bd.trim
    refine (Bd.mul b1 b2).mono ?_
    have : (anyV ds j).length * (2 ^ 20 * 2 ^ 20) ≤ 7 * (2 ^ 20 * 2 ^ 20) := Nat.mul_le_mul_right _ l1
    have e : 7 * (2 ^ 20 * 2 ^ 20) ≤ 2 ^ 43 := by decide
    exact Nat.le_trans this e
theorem any_sml (ds : List Int) (j : Int) : SmL (anyV ds j) := sml_of (anyV_ok ds j).2.2 (by decide)
theorem g_any_times {ds : List Int} (j k : Int) : gTimes [ils (anyV ds j), ils (anyV ds k)] = some (ils (trim (mul (anyV ds j) (anyV ds k))), true) :=
  gTimes_ (by have := (anyV_ok ds j).2.1; omega) (by have := (anyV_ok ds k).2.1; omega) (any_sml ds j) (any_sml ds k)
open Classical in
noncomputable def gOthers : GD := g1 dInts fun ds => if Drawn ds then some (.bool true, false) else none
theorem gOthers_ {ds : List Int} (h : Drawn ds) : gOthers [ils ds] = some (.bool true, false) := by
  rw [gOthers, g1_, dInts_, Option.bind_some]
  exact if_pos h
theorem oEq_optD {o : Option P} : oEq (optD o).1 (optD o).1 = some (.bool true) := by
  cases o with
  | none => exact oEq_none
  | some q => simp only [optD, oEq_ils, decide_true]
theorem w_others (ds : List PyData) (d : PyData) (b : Bool) (h : gOthers ds = some (d, b)) : T_x_law_others_told gAny gTimes gGcd gIsList gLowest gDiv gCommon gMix gDiv (endsOf d b) (startE 8 ds) := by
  obtain ⟨_, ns, rfl, h1, h2⟩ := g1_inv h
  cases dInts_eq h1
  split at h2
  · rename_i hd
    cases h2
    obtain ⟨t1, l1, b1⟩ := anyMul_ok ns 40 50
    obtain ⟨t2, l2, b2⟩ := anyMul_ok ns 40 60
    have gt1 := g_any_times (ds := ns) 40 50
    have gt2 := g_any_times (ds := ns) 40 60
    generalize trim (mul (anyV ns 40) (anyV ns 50)) = one at t1 l1 b1 gt1
    generalize trim (mul (anyV ns 40) (anyV ns 60)) = two at t2 l2 b2 gt2
    have okg : okGcd one two := ⟨t1, t2, 14, 43, l1, l2, by omega, b1, b2, by decide⟩
    have okg' : okGcd two one := ⟨t2, t1, 14, 43, l2, l1, by omega, b2, b1, by decide⟩
    unfold T_x_law_others_told
    refine ⟨ils (anyV ns 40), by walk_at "pd"; rw [gAny_ hd (by omega) (by omega)]; rfl, ?_⟩
    refine ⟨ils one, by walk_at "pd"; rw [gAny_ hd (by omega) (by omega)]; walk_at "pd"; rw [gt1]; rfl, ?_⟩
    refine ⟨ils two, by walk_at "pd"; rw [gAny_ hd (by omega) (by omega)]; walk_at "pd"; rw [gt2]; rfl, ?_⟩
    refine ⟨ils (gcdP one two), by walk_at "pd"; rw [gGcd_ okg]; rfl, ?_⟩
    have first : ∀ {E : PEnv}, E = [some (ils ns, false), some (ils (anyV ns 40), false), some (ils one, false), some (ils two, false), some (ils (gcdP one two), false), none, none, none] →
        fAnd (fB (fBin oEq (fVarV 2) (fL (fLst fNil)))) (fB (fBin oEq (fVarV 3) (fL (fLst fNil)))) E = some (decide (one = []) && decide (two = [])) := by
      rintro _ rfl
      rw [fAnd_, fB_, fB_, fBin_, fBin_, fE]
      walk_at "pd"
      by_cases hz : one = []
      · rw [if_pos (by simp [hz])]
        simp [hz]
      · rw [if_neg (by simp [hz])]
        simp [hz]
    refine ⟨decide (one = []) && decide (two = []), first rfl, ?_⟩
    by_cases hz : one = [] ∧ two = []
    · rw [if_pos (by simp [hz])]
      refine ⟨.bool true, ?_, rfl, rfl⟩
      rw [fBin_, fE]
      walk_at "pd"
      simp [hz, gcd_nil]
    · rw [if_neg (by simpa using fun z => fun z2 => hz ⟨z, z2⟩)]
      have hn : one ≠ [] ∨ two ≠ [] := by
        by_cases z : one = []
        · right; exact fun z2 => hz ⟨z, z2⟩
        · exact .inl z
      obtain ⟨lg, d1, d2, bz⟩ := gcdP_spec t1 t2 hn
      obtain ⟨gb, gl⟩ := gcd_small (s := 1583) t1 t2 l1 l2 (by omega) b1 b2 (by decide) (by decide)
      have hco := gcd_comm t1 t2 hn
      have hcf := fun q r => gcd_cofactors (q := q) (r := r) t1 t2 hn
      generalize hG : gcdP one two = G at lg d1 d2 bz gb gl hco hcf
      obtain ⟨q1, tq1, e1⟩ := lg.dvd_of d1
      obtain ⟨q2, tq2, e2⟩ := lg.dvd_of d2
      have okd1 : okDiv one G := ⟨t1, lg.tr, lg.ne, by omega, by omega, 1583, b1.mono (Nat.pow_le_pow_right (by omega) (by omega)), gb, Nat.le_trans (Nat.mul_le_mul_left _ (show one.length + 2 ≤ 16 by omega)) (by decide)⟩
      have okd2 : okDiv two G := ⟨t2, lg.tr, lg.ne, by omega, by omega, 1583, b2.mono (Nat.pow_le_pow_right (by omega) (by omega)), gb, Nat.le_trans (Nat.mul_le_mul_left _ (show two.length + 2 ≤ 16 by omega)) (by decide)⟩
      have hq1 := quo_some lg.tr lg.ne tq1 e1
      have hq2 := quo_some lg.tr lg.ne tq2 e2
      obtain ⟨bq1, lq1⟩ := quo_bd t1 lg.tr lg.ne (b1.mono (Nat.pow_le_pow_right (by omega) (show 43 ≤ 1583 by omega))) gb hq1
      obtain ⟨bq2, lq2⟩ := quo_bd t2 lg.tr lg.ne (b2.mono (Nat.pow_le_pow_right (by omega) (show 43 ≤ 1583 by omega))) gb hq2
      have pg : 0 < G.length := List.length_pos_iff.mpr lg.ne
      have up : ∀ n, n ≤ 14 → 1583 + n * (1583 + 1) ≤ 23759 := fun n hn => by omega
      have bq1' : Bd q1 (2 ^ 23759) := bq1.mono (Nat.pow_le_pow_right (by omega) (up _ l1))
      have bq2' : Bd q2 (2 ^ 23759) := bq2.mono (Nat.pow_le_pow_right (by omega) (up _ l2))
      have okc : okGcd q1 q2 := ⟨tq1, tq2, 14, 23759, by omega, by omega, by omega, bq1', bq2', by decide⟩
      have hc1 : gcdP q1 q2 = [1] := hcf q1 q2 tq1 tq2 e1 e2
      have sG : SmL G := sml_of gb (by decide)
      have tm1 : gTimes [ils q1, ils G] = some (ils one, true) := by
        rw [gTimes_ (by omega) (by omega) (sml_of bq1' (by decide)) sG]
        have : trim (mul q1 G) = one := ext_all (fun x => by rw [ev_trim, ev_mul, e1 x]) (tr_trim _) t1
        rw [this]
      have tm2 : gTimes [ils q2, ils G] = some (ils two, true) := by
        rw [gTimes_ (by omega) (by omega) (sml_of bq2' (by decide)) sG]
        have : trim (mul q2 G) = two := ext_all (fun x => by rw [ev_trim, ev_mul, e2 x]) (tr_trim _) t2
        rw [this]
      -- the second test
      have lwG : gLowest [ils G] = some (ils G, true) := by
        rw [gLowest_ (by omega) lg.tr sG, prim_low lg]
      refine ⟨false, ?_, ?_⟩
      · rw [fOr_, fNot_, fB_, fDef_, fOr_, fB_, fBin_, fE]
        walk_at "pd"
        rw [gIsList_ (by omega)]
        walk_at "pd"
        rw [decide_eq_false lg.ne]
        walk_at "pd"
        rw [lwG]
        walk_at "pd"
      · rw [if_neg Bool.false_ne_true]
        refine ⟨ils q1, by walk_at "pd"; rw [gDiv_ okd1, hq1]; rfl, ?_⟩
        refine ⟨ils q2, by walk_at "pd"; rw [gDiv_ okd2, hq2]; rfl, ?_⟩
        refine ⟨false, ?_, ?_⟩
        · rw [fOr_, fOr_, fOr_]
          walk_at "pd"
          rw [tm1, tm2]
          walk_at "pd"
          simp
        · rw [if_neg Bool.false_ne_true]
          refine ⟨false, ?_, ?_⟩
          · walk_at "pd"
            rw [gCommon_ okc, hc1]
            walk_at "pd"
            simp
          · rw [if_neg Bool.false_ne_true]
            have m1 := mixV_lt (ds := ns) (k := 70) (m := 5) (by omega)
            have m2 := mixV_lt (ds := ns) (k := 71) (m := 3) (by omega)
            refine ⟨ils [1 + mixV ns 70 5, 1 + mixV ns 71 3], ?_, ?_⟩
            · rw [fL_, fLst_]
              walk_at "pd"
              rw [gMix_ hd (by omega) (by omega) (by omega), gMix_ hd (by omega) (by omega) (by omega)]
              walk_at "pd"
              rw [if_pos (by omega)]
              rfl
            · generalize mixV ns 70 5 = u at m1
              generalize mixV ns 71 3 = v at m2
              have tp : Tr [1 + u, 1 + v] := by
                apply tr_of_lc
                show 1 + v ≠ 0
                omega
              have bp : Bd [1 + u, 1 + v] (2 ^ 43) := fun k => by
                have e43 : (2 : Nat) ^ 43 = 8796093022208 := by decide
                rw [e43]
                match k with
                | 0 => show (1 + u).natAbs ≤ _; omega
                | 1 => show (1 + v).natAbs ≤ _; omega
                | k + 2 => show Int.natAbs 0 ≤ _; omega
              obtain ⟨_, _, _, _, lp⟩ := prim_spec tp (by simp)
              have lpl := prim_length [1 + u, 1 + v] tp
              simp only [List.length_cons, List.length_nil] at lpl
              have bpp := bp.prim tp
              have okp : okDiv one (prim [1 + u, 1 + v]) := ⟨t1, lp.tr, lp.ne, by omega, by omega, 43, b1, bpp, Nat.le_trans (Nat.mul_le_mul_left _ (show one.length + 2 ≤ 16 by omega)) (by decide)⟩
              refine ⟨ils (prim [1 + u, 1 + v]), by walk_at "pd"; rw [gLowest_ (by simp) tp (sml_of bp (by decide))]; rfl, ?_⟩
              refine ⟨.bool true, ?_, rfl, rfl⟩
              walk_at "pd"
              rw [gDiv_ okp, gGcd_ okg', hco]
              walk_at "pd"
              rw [oEq_optD]
              walk_at "pd"
  · cases h2
end K78

set_option Elab.async false
set_option linter.all false
set_option maxRecDepth 100000
set_option maxHeartbeats 4000000
set_option autoImplicit false
namespace K78
open PySem PD Pl L2
local macro_rules | `(tactic| walk_at "pd") => `(tactic| simp -implicitDefEqProofs only [pNext_, pSeq_, pDrop_, pMove_, pYoung_, fWhole_, fShort_, pSetV_, pSetF_, pSetG_, pPar_, pItem_, pApp_, pRetV_, pRetF_, pRetN_, pRet0_, pBreak_, pCont_, pIf_, endsOf_rt, endsOf_nx, fC_, fBin_, fUn_, fNil_, fCons_, fTup_, fLst_, fL_, fCall_, fIx_, fO0_, fAnd_, fOr_, fNot_, fIf_, fTru_, fDef_, fYes_, bN_, fVar_, fVarV_, fB_, fO1_, fSl_, fList_, fDefF_, ints?_map, iL_, fAndV_, fOrV_, iR1_, iR2_, iRev1_, dropE_nil, dropE_cons, drop1_, wipeE_nil, wipeE_cons, startE_,
  oI_, oB_, oAdd_, oSub_, oMul_, oDivZ_, oMod_, oPow_, oLt_, oLe_, oGt_, oGe_, oNeg_, oNot_, oIsN_, oEq_int, oNe_int, oEq_ils, oNe_ils, oEq_nil, oNe_nil, oNe_none, oEq_none, oNe_none_ils, oNe_ils_none, oAbs_, oInt_, oIntb_, oMax2_, oMin2_, oLen_, oLenT_, oIx_, oBits_, truI_, g1_, g2_, g3_, dInts_, dInt_, dAny_,
  List.getElem?_cons_zero, List.getElem?_cons_succ, List.set_cons_zero, List.set_cons_succ, Nat.zero_add, Nat.reduceAdd, Nat.reduceSub, List.replicate_succ, List.replicate_zero, Option.bind_some, Option.map_some, List.map_cons, List.map_nil, List.length_cons, List.length_nil, List.cons_append, List.nil_append, List.length_map, Option.some.injEq, exists_eq_left', Bool.false_eq_true, if_true, if_false, decide_true, decide_false, Bool.not_true, Bool.not_false, Bool.true_and, Bool.false_and, and_true, true_and])
/-! ### _law_powers_told -/
theorem pEnv_eq {T : PTS} {E : PEnds} {env env' : PEnv} (h : env = env') (ht : T E env') : T E env := h ▸ ht
theorem comp8f {fe : PEnv → Option PyData} {ft : PEnv → Option Bool} {env : PEnv} {i : Nat} (p : Nat → Bool) (g : Nat → Int) (ht : ∀ t : Nat, t < 8 → ft ((wipeE env [i]).set i (some (.int (t : Int), false))) = some (p t))
    (he : ∀ t : Nat, t < 8 → p t = true → fe ((wipeE env [i]).set i (some (.int (t : Int), false))) = some (.int (g t))) :
    fComp [i] (iR1 (fCons (fC (.int 8)) fNil)) (bN i) ft fe env = some ((((List.range 8).filter p).map g).map PyData.int) := by
  unfold fComp
  rw [iR1_8, Option.bind_some, if_pos (by rw [rangeD_length]; omega), compL_map (fun d => match d with | .int t => p t.toNat | _ => false) (fun d => match d with | .int t => .int (g t.toNat) | _ => .none)]
  · unfold rangeD
    rw [List.filter_map, List.map_map, List.map_map]
    congr 1
    have e1 : ((fun d => match d with | PyData.int t => p t.toNat | _ => false) ∘ fun (k : Nat) => PyData.int (0 + (k : Int))) = p := by
      funext k
      show p (0 + (k : Int)).toNat = p k
      rw [Int.zero_add, Int.toNat_natCast]
    rw [e1]
    apply List.map_congr_left
    intro k _
    show PyData.int (g (0 + (k : Int)).toNat) = PyData.int (g k)
    rw [Int.zero_add, Int.toNat_natCast]
  · intro d hd
    obtain ⟨t, h8, rfl⟩ := mem_range hd
    exact ⟨_, rfl, by show _ = some (p (t : Int).toNat); rw [Int.toNat_natCast]; exact ht t h8, fun h => by
      show _ = some (PyData.int (g (t : Int).toNat))
      have h : p (t : Int).toNat = true := h
      rw [Int.toNat_natCast] at h ⊢
      exact he t h8 h⟩
theorem comp8 {fe : PEnv → Option PyData} {env : PEnv} {i : Nat} (g : Nat → Int) (he : ∀ t : Nat, t < 8 → fe ((wipeE env [i]).set i (some (.int (t : Int), false))) = some (.int (g t))) :
    fComp [i] (iR1 (fCons (fC (.int 8)) fNil)) (bN i) fYes fe env = some (((List.range 8).map g).map PyData.int) := by
  rw [comp8f (fun _ => true) g (fun _ _ => rfl) fun t h _ => he t h]
  rw [List.filter_eq_self.mpr fun _ _ => rfl]
theorem get8 {g : Nat → Int} {t : Nat} (h : t < 8) : ((List.range 8).map g).getD t 0 = g t := by
  simp [List.getD_eq_getElem?_getD, h]
theorem expo8 {g : Nat → Int} {t : Nat} (h : t < 8) : expo ((List.range 8).map g) t = (g t).toNat := by
  unfold expo
  rw [get8 h]
theorem len8 {g : Nat → Int} : ((List.range 8).map g).length = 8 := by simp
theorem smul_one (p : P) : smul 1 p = p := by simp [smul]
theorem log_of {p : P} (h : Bd p (2 ^ 242)) : ∀ n ∈ p, n.natAbs.log2 < 300 := fun n hn => by
  obtain ⟨k, hk, rfl⟩ := List.getElem_of_mem hn
  have h1 := h k
  rw [co_lt hk] at h1
  by_cases hz : p[k].natAbs = 0
  · rw [hz]; decide
  · exact (Nat.log2_lt hz).mpr (Nat.lt_of_le_of_lt h1 (Nat.pow_lt_pow_right (by omega) (by omega)))
theorem getLast_lc (p : P) : p.getLastD 0 = lc p := rfl
/-- lists of powers that may be built -/
structure Pw (ps : List Int) : Prop where
  len : ps.length = 8
  val : ∀ t, t < 8 → 0 ≤ ps.getD t 0 ∧ ps.getD t 0 ≤ 3
theorem Pw.le {ps : List Int} (h : Pw ps) : ∀ t, t < 8 → expo ps t ≤ 3 := fun t ht => by
  have := h.val t ht
  show (ps.getD t 0).toNat ≤ 3
  omega
theorem Pw.at {ps : List Int} (h : Pw ps) {t : Nat} (ht : t < 8) : atI (ps.map PyData.int) (t : Int) = some (.int (expo ps t : Nat)) := by
  have h1 := h.val t ht
  rw [atI_ints (by rw [h.len]; exact ht)]
  have e : ps.getD t 0 = (expo ps t : Nat) := by show _ = (((ps.getD t 0).toNat : Nat) : Int); omega
  rw [e]
theorem Pw.ok {ps : List Int} (h : Pw ps) {n : Int} (hn : n ≠ 0) (hb : n.natAbs ≤ 2 ^ 50) : gBuilt [.int n, ils ps] = some (ils (smul n (prodF menuL (expo ps))), false) := gBuilt_ ⟨hn, hb, h.len, h.val⟩
theorem Pw.of {g : Nat → Int} (h : ∀ t, t < 8 → 0 ≤ g t ∧ g t ≤ 3) : Pw ((List.range 8).map g) := ⟨len8, fun t ht => by rw [get8 ht]; exact h t ht⟩
theorem pw_powV {ds : List Int} {k m : Int} (h0 : 0 < m) (h3 : m ≤ 3) : Pw (powV ds k m) := ⟨powV_len, fun t ht => by have := powV_get (ds := ds) (k := k) h0 ht; omega⟩
theorem good_gcd {p q : P} (h1 : Good p 24) (h2 : Good q 24) : okGcd p q := ⟨h1.tr, h2.tr, 73, 242, h1.len, h2.len, by omega, h1.bd, h2.bd, by decide⟩
theorem good_gcd0 {p : P} (h1 : Good p 24) : okGcd p [] := ⟨h1.tr, tr_nil, 73, 242, h1.len, by simp, by omega, h1.bd, Bd.nil _, by decide⟩
theorem good_gcd0' {p : P} (h1 : Good p 24) : okGcd [] p := ⟨tr_nil, h1.tr, 73, 242, by simp, h1.len, by omega, Bd.nil _, h1.bd, by decide⟩
theorem good_div {p q : P} (h1 : Good p 24) (h2 : Good q 24) : okDiv p q := ⟨h1.tr, h2.tr, h2.ne, by have := h1.len; omega, by have := h2.len; omega, 242, h1.bd, h2.bd, Nat.le_trans (Nat.mul_le_mul_left _ (show p.length + 2 ≤ 75 by have := h1.len; omega)) (by decide)⟩
theorem good_der {p : P} (h : Good p 24) : okGcd p (der p) := by
  have hl := h.len
  refine ⟨h.tr, der_tr h.tr, 73, 249, h.len, by rw [der_length]; omega, by omega, h.bd.mono (Nat.pow_le_pow_right (by omega) (by omega)), fun k => ?_, by decide⟩
  rw [co_der, Int.natAbs_mul]
  by_cases hk : k + 1 < p.length
  · have h1 := h.bd (k + 1)
    have h2 : ((k : Int) + 1).natAbs ≤ 2 ^ 7 := by
      have : (2 : Nat) ^ 7 = 128 := by decide
      rw [this]; omega
    have h3 := Nat.mul_le_mul h2 h1
    rw [← Nat.pow_add] at h3
    exact h3
  · rw [co_ge (by omega)]; simp
theorem good_sq {n : Int} {e : Nat → Nat} (hn : n ≠ 0) (hb : n.natAbs ≤ 2 ^ 50) (he : ∀ t, t < 8 → e t ≤ 3) : gSq [ils (smul n (prodF menuL e))] = some (ils (prodF menuL fun t => min 1 (e t)), true) := by
  have G := good_smul hn hb he
  have GP := good_prod he
  have GR := good_prod (e := fun t => e t - 1) fun t ht => by have := he t ht; omega
  have hp := prim_smul hn (low_menu e)
  refine gSq_ ⟨by have := G.len; omega, G.tr, ?_, ?_, ?_⟩ ?_
  · rw [hp]; exact good_sml GP (by omega)
  · rw [hp]; exact good_der GP
  · rw [hp, gcd_der]; exact good_div GP GR
  · rw [hp, gcd_der]; exact quo_sq e
theorem good_often {n : Int} {D : P} {e f : Nat → Nat} (hn : n ≠ 0) (hb : n.natAbs ≤ 2 ^ 50) (he : ∀ t, t < 8 → e t ≤ 3) (lD : Low D) (l2 : 2 ≤ D.length) (lD' : D.length ≤ 1000) (bD : Bd D (2 ^ 242)) (hD : ∀ x, ev D x = ev (prodF menuL f) x) {c : Nat}
    (h1 : ∀ t, t < 8 → c * f t ≤ e t) (h2 : ∃ t, t < 8 ∧ e t < (c + 1) * f t) : gOften [ils (smul n (prodF menuL e)), ils D] = some (.int (c : Nat), false) := by
  have G := good_smul hn hb he
  rw [gOften_ ⟨G.tr, G.ne, lD.tr, l2, by have := G.len; omega, lD', 242, bD, Nat.le_trans (Nat.mul_le_mul_left _ (show (smul n (prodF menuL e)).length + 2 ≤ 75 by have := G.len; omega)) (by decide), fun k q tq hq => rest_bd hn hb he lD hD tq hq⟩]
  have hc : c < (smul n (prodF menuL e)).length + 5 := by
    obtain ⟨t, ht, hlt⟩ := h2
    have h3 := h1 t ht
    have h4 := he t ht
    have h5 : (c + 1) * f t = c * f t + f t := Nat.succ_mul _ _
    have h6 : 1 ≤ f t := by omega
    have h7 := Nat.mul_le_mul_left c h6
    omega
  have : oftenV (smul n (prodF menuL e)) D = c := oft_spec hn lD.tr lD.ne hD c _ e h1 h2 hc
  rw [this]
theorem prod_len {f : Nat → Nat} (h : ∃ t, t < 8 ∧ 0 < f t) : 2 ≤ (prodF menuL f).length := by
  apply Classical.byContradiction
  intro hn
  have lp := low_menu f
  have pl : 0 < (prodF menuL f).length := List.length_pos_iff.mpr lp.ne
  obtain ⟨m, hm⟩ : ∃ m, prodF menuL f = [m] := List.length_eq_one_iff.mp (by omega)
  obtain ⟨t, ht, hf⟩ := h
  have dv : Dv (prodF menuL f) (prodF menuL fun _ => 0) := by
    have e0 : ∀ x, ev (prodF menuL fun _ => 0) x = 1 := fun x => by
      have := ev_prodF_mul menuL f x 0
      simpa using this
    refine ⟨m, [1], ?_, fun x => by rw [e0 x, hm]; simp⟩
    have := lp.pos
    rw [hm] at this
    show m ≠ 0
    have : (0 : Int) < m := this
    omega
  have := le_of_dv menu_cop menu_low dv t ht
  omega
open Classical in
noncomputable def gPT : GD := g1 dInts fun ds => if Drawn ds then some (.bool true, false) else none
theorem gPT_ {ds : List Int} (h : Drawn ds) : gPT [ils ds] = some (.bool true, false) := by
  rw [gPT, g1_, dInts_, Option.bind_some]
  exact if_pos h
end K78

set_option Elab.async false
set_option linter.all false
set_option maxRecDepth 100000
set_option maxHeartbeats 4000000
set_option autoImplicit false
namespace K78
open PySem PD Pl L2
local macro_rules | `(tactic| walk_at "pd") => `(tactic| simp -implicitDefEqProofs only [pNext_, pSeq_, pDrop_, pMove_, pYoung_, fWhole_, fShort_, pSetV_, pSetF_, pSetG_, pPar_, pItem_, pApp_, pRetV_, pRetF_, pRetN_, pRet0_, pBreak_, pCont_, pIf_, endsOf_rt, endsOf_nx, fC_, fBin_, fUn_, fNil_, fCons_, fTup_, fLst_, fL_, fCall_, fIx_, fO0_, fAnd_, fOr_, fNot_, fIf_, fTru_, fDef_, fYes_, bN_, fVar_, fVarV_, fB_, fO1_, fSl_, fList_, fDefF_, ints?_map, iL_, fAndV_, fOrV_, iR1_, iR2_, iRev1_, dropE_nil, dropE_cons, drop1_, wipeE_nil, wipeE_cons, startE_,
  oI_, oB_, oAdd_, oSub_, oMul_, oDivZ_, oMod_, oPow_, oLt_, oLe_, oGt_, oGe_, oNeg_, oNot_, oIsN_, oEq_int, oNe_int, oEq_ils, oNe_ils, oEq_nil, oNe_nil, oNe_none, oEq_none, oNe_none_ils, oNe_ils_none, oAbs_, oInt_, oIntb_, oMax2_, oMin2_, oLen_, oLenT_, oIx_, oBits_, truI_, g1_, g2_, g3_, dInts_, dInt_, dAny_,
  List.getElem?_cons_zero, List.getElem?_cons_succ, List.set_cons_zero, List.set_cons_succ, Nat.zero_add, Nat.reduceAdd, Nat.reduceSub, List.replicate_succ, List.replicate_zero, Option.bind_some, Option.map_some, List.map_cons, List.map_nil, List.length_cons, List.length_nil, List.cons_append, List.nil_append, List.length_map, Option.some.injEq, exists_eq_left', Bool.false_eq_true, if_true, if_false, decide_true, decide_false, Bool.not_true, Bool.not_false, Bool.true_and, Bool.false_and, and_true, true_and])
theorem low_of_smul1 {p : P} : smul 1 p = p := smul_one p
theorem fdiv_self_mul {n m : Int} (hm : m ≠ 0) : Int.fdiv (n * m) m = n := Int.mul_fdiv_cancel n hm
def T_pt_tail (g_divided g_often g_x_law_menu g_x_law_is_list : GD) : PTS :=
 (pSeq (pSetV 15 (fDef g_divided (fCons (fVarV 4) (fCons (fVarV 6) fNil))))
 (pSeq (pIf (fOr (fB (fBin oNe (fVarV 15) (fVarV 14))) (fAnd (fB (fBin (oIsN true) (fVarV 15) (fC .none))) (fNot (fB (fDef g_x_law_is_list (fCons (fVarV 15) fNil))))))
 (pRetV (fC (.bool false)))
 pNext)
 (pSeq (pSetV 16 (fL (fComp [8] (iR1 (fCons (fC (.int 8)) fNil)) (bN 8) (fB (fBin oGt (fIx (fVar 3) (fVarV 8)) (fC (.int 0)))) (fBin oDivZ (fIx (fVar 1) (fVarV 8)) (fIx (fVar 3) (fVarV 8))))))
 (pSeq (pIf (fAnd (fB (fBin oNe (fVarV 16) (fL (fLst fNil)))) (fOr (fB (fBin oNe (fDef g_often (fCons (fVarV 4) (fCons (fVarV 6) fNil))) (fCall oMin1 (fCons (fVarV 16) fNil)))) (fB (fUn (oIsi "bool") (fDef g_often (fCons (fVarV 4) (fCons (fVarV 6) fNil)))))))
 (pRetV (fC (.bool false)))
 pNext)
 (pSeq (pFor (iR1 (fCons (fC (.int 8)) fNil)) (bN 8)
 (pIf (fB (fBin oNe (fDef g_often (fCons (fVarV 4) (fCons (fIx (fDef g_x_law_menu fNil) (fVarV 8)) fNil))) (fIx (fVar 1) (fVarV 8))))
 (pRetV (fC (.bool false)))
 pNext))
 (pRetV (fBin oEq (fCall oRepr (fCons (fTup (fCons (fVarV 4) (fCons (fVarV 5) (fCons (fVarV 6) fNil)))) fNil)) (fVarV 10))))))))
theorem w_pt_tail {E : PEnds} {ns mine other few one two part plain shared : List Int} {tx : Str} {y11 : Option (PyData × Bool)} {A C : Nat → Nat} {o : Option P}
    (hE : E.rt (.bool true) false) (atA : ∀ {t : Nat}, t < 8 → atI (mine.map PyData.int) (t : Int) = some (.int (A t : Nat))) (atC : ∀ {t : Nat}, t < 8 → atI (few.map PyData.int) (t : Int) = some (.int (C t : Nat)))
    (dv : gDiv [ils one, ils part] = some (optD o)) (ho : ∀ q, o = some q → q.length ≤ 1000)
    (of1 : ∀ c : Nat, (∀ t, t < 8 → c * C t ≤ A t) → (∃ t, t < 8 ∧ A t < (c + 1) * C t) → gOften [ils one, ils part] = some (.int (c : Nat), false))
    (of2 : ∀ t : Nat, t < 8 → gOften [ils one, ils (menuL.getD t [])] = some (.int (A t : Nat), false))
    (rp : oRepr [.tuple [ils one, ils two, ils part]] = some (.str tx)) (rq : oEq (.str tx) (.str tx) = some (.bool true)) :
    T_pt_tail gDiv gOften gMenu gIsList E [some (ils ns, false), some (ils mine, false), some (ils other, false), some (ils few, false), some (ils one, false), some (ils two, false), some (ils part, false), some (ils plain, false), none, some (ils shared, false), some (.str tx, false), y11, none, none, some ((optD o).1, false), none, none] := by
  unfold T_pt_tail
  refine ⟨(optD o).1, by walk_at "pd"; rw [dv]; rfl, ?_⟩
  show pSeq _ _ _ _
  refine pEnv_eq (env' := [some (ils ns, false), some (ils mine, false), some (ils other, false), some (ils few, false), some (ils one, false), some (ils two, false), some (ils part, false), some (ils plain, false), none, some (ils shared, false), some (.str tx, false), y11, none, none, some ((optD o).1, false), some ((optD o).1, false), none]) rfl ?_
  refine ⟨false, ?_, ?_⟩
  · cases o with
    | none =>
      rw [fOr_, fAnd_]
      walk_at "pd"
      simp only [optD]
      walk_at "pd"
      simp
    | some q =>
      rw [fOr_, fAnd_]
      walk_at "pd"
      simp only [optD]
      walk_at "pd"
      rw [gIsList_ (by have := ho q rfl; omega)]
      walk_at "pd"
      simp
  rw [if_neg Bool.false_ne_true]
  obtain ⟨cs, hcs⟩ : ∃ cs : List Int, cs = ((List.range 8).filter fun t => decide (0 < C t)).map fun t => ((A t / C t : Nat) : Int) := ⟨_, rfl⟩
  refine ⟨ils cs, ?_, ?_⟩
  · rw [fL_, comp8f (fun t => decide (0 < C t)) (fun t => ((A t / C t : Nat) : Int)) (fun t ht => by
      walk_at "pd"
      rw [atC ht]
      walk_at "pd"
      by_cases hz : 0 < C t
      · rw [decide_eq_true hz, decide_eq_true (by omega)]
      · rw [decide_eq_false hz, decide_eq_false (by omega)]) (fun t ht hp => by
      have hp := of_decide_eq_true hp
      walk_at "pd"
      rw [atA ht, atC ht]
      walk_at "pd"
      rw [if_neg (by omega), fdivN]), ← hcs]
    rfl
  show pSeq _ _ _ _
  refine pEnv_eq (env' := [some (ils ns, false), some (ils mine, false), some (ils other, false), some (ils few, false), some (ils one, false), some (ils two, false), some (ils part, false), some (ils plain, false), none, some (ils shared, false), some (.str tx, false), y11, none, none, some ((optD o).1, false), some ((optD o).1, false), some (ils cs, false)]) rfl ?_
  refine ⟨false, ?_, ?_⟩
  · rw [fAnd_, fB_, fBin_, fE]
    walk_at "pd"
    by_cases hz : cs = []
    · rw [decide_eq_true hz]
      simp
    · rw [decide_eq_false hz]
      obtain ⟨m, hm⟩ := leastOf_some cs hz
      obtain ⟨q1, q2⟩ := leastOf_spec hm
      rw [hcs] at q1
      obtain ⟨t0, ht0, em⟩ := List.mem_map.mp q1
      obtain ⟨ht8, hC0⟩ := List.mem_filter.mp ht0
      have ht8 := List.mem_range.mp ht8
      have hC0 := of_decide_eq_true hC0
      have oft := of1 (A t0 / C t0) (fun t ht => by
        by_cases hz : 0 < C t
        · have h1 := q2 ((A t / C t : Nat) : Int) (by rw [hcs]; exact List.mem_map.mpr ⟨t, List.mem_filter.mpr ⟨List.mem_range.mpr ht, decide_eq_true hz⟩, rfl⟩)
          rw [← em] at h1
          have h2 : A t0 / C t0 ≤ A t / C t := by omega
          exact Nat.le_trans (Nat.mul_le_mul_right _ h2) (Nat.div_mul_le_self _ _)
        · have : C t = 0 := by omega
          rw [this]; omega) ⟨t0, ht8, by
          have h1 := Nat.div_add_mod (A t0) (C t0)
          have h2 := Nat.mod_lt (A t0) hC0
          rw [Nat.succ_mul, Nat.mul_comm]
          omega⟩
      walk_at "pd"
      rw [oft]
      simp only [oMin1, ints?_map, Option.bind_some, hm, Option.map_some, ← em]
      walk_at "pd"
      rw [isi_bool_int]
      walk_at "pd"
  rw [if_neg Bool.false_ne_true]
  refine ⟨_, iR1_8, fun i env => ∃ y8, env = [some (ils ns, false), some (ils mine, false), some (ils other, false), some (ils few, false), some (ils one, false), some (ils two, false), some (ils part, false), some (ils plain, false), y8, some (ils shared, false), some (.str tx, false), y11, none, none, some ((optD o).1, false), some ((optD o).1, false), some (ils cs, false)], ⟨none, rfl⟩, ?_, ?_⟩
  · rintro t _ _ ht0 ⟨y8, rfl⟩
    obtain ⟨ht, rfl⟩ := rangeD_get ht0
    rw [Int.zero_add]
    refine ⟨_, rfl, false, ?_, ?_⟩
    · walk_at "pd"
      simp only [gMenu, Option.map_some, Option.bind_some]
      walk_at "pd"
      rw [menu_at ht, atA ht]
      walk_at "pd"
      rw [of2 t ht]
      walk_at "pd"
    · rw [if_neg Bool.false_ne_true]
      exact ⟨_, rfl⟩
  · rintro _ ⟨y8, rfl⟩
    refine ⟨.bool true, ?_, hE⟩
    walk_at "pd"
    rw [if_pos (by omega)]
    walk_at "pd"
    rw [rp]
    walk_at "pd"
    exact rq
theorem w_powers_told (ds : List PyData) (d : PyData) (b : Bool) (h : gPT ds = some (d, b)) : T_x_law_powers_told gPowers gBuilt gNumber gSq gGcd gPrim gIsList gDiv gOften gMenu (endsOf d b) (startE 17 ds) := by
  obtain ⟨_, ns, rfl, h1, h2⟩ := g1_inv h
  cases dInts_eq h1
  split at h2
  · rename_i hd
    cases h2
    have pm : Pw (powV ns 0 3) := pw_powV (by omega) (by omega)
    have po : Pw (powV ns 10 3) := pw_powV (by omega) (by omega)
    have pf : Pw (powV ns 20 2) := pw_powV (by omega) (by omega)
    have gm : gPowers [ils ns, .int 0, .int 3] = some (ils (powV ns 0 3), true) := gPowers_ hd (by omega) (by omega) (by omega)
    have go : gPowers [ils ns, .int 10, .int 3] = some (ils (powV ns 10 3), true) := gPowers_ hd (by omega) (by omega) (by omega)
    have gf : gPowers [ils ns, .int 20, .int 2] = some (ils (powV ns 20 2), true) := gPowers_ hd (by omega) (by omega) (by omega)
    have gn : gNumber [ils ns, .int 30] = some (.int (numV ns 30), false) := gNumber_ hd (by omega) (by omega)
    have gn2 : gNumber [ils ns, .int 32] = some (.int (numV ns 32), false) := gNumber_ hd (by omega) (by omega)
    obtain ⟨n0, nb⟩ := numV_ok ns 30
    obtain ⟨k0, kb⟩ := numV_ok ns 32
    generalize powV ns 0 3 = mine at pm gm
    generalize powV ns 10 3 = other at po go
    generalize powV ns 20 2 = few at pf gf
    generalize numV ns 30 = n at n0 nb gn
    generalize numV ns 32 = k at k0 kb gn2
    obtain ⟨A, hA⟩ : ∃ A, A = expo mine := ⟨_, rfl⟩
    obtain ⟨B, hB⟩ : ∃ B, B = expo other := ⟨_, rfl⟩
    obtain ⟨C, hC⟩ : ∃ C, C = expo few := ⟨_, rfl⟩
    have leA : ∀ t, t < 8 → A t ≤ 3 := by rw [hA]; exact pm.le
    have leB : ∀ t, t < 8 → B t ≤ 3 := by rw [hB]; exact po.le
    have leC : ∀ t, t < 8 → C t ≤ 3 := by rw [hC]; exact pf.le
    have atA : ∀ {t : Nat}, t < 8 → atI (mine.map PyData.int) (t : Int) = some (.int (A t : Nat)) := fun ht => by rw [hA]; exact pm.at ht
    have atB : ∀ {t : Nat}, t < 8 → atI (other.map PyData.int) (t : Int) = some (.int (B t : Nat)) := fun ht => by rw [hB]; exact po.at ht
    have atC : ∀ {t : Nat}, t < 8 → atI (few.map PyData.int) (t : Int) = some (.int (C t : Nat)) := fun ht => by rw [hC]; exact pf.at ht
    have b1 : gBuilt [.int n, ils mine] = some (ils (smul n (prodF menuL A)), false) := by rw [hA]; exact pm.ok n0 nb
    have b2 : gBuilt [.int k, ils other] = some (ils (smul k (prodF menuL B)), false) := by rw [hB]; exact po.ok k0 kb
    have b3 : gBuilt [.int 1, ils few] = some (ils (prodF menuL C), false) := by rw [hC, pf.ok (by omega) (by decide), smul_one]
    have b4 : gBuilt [.int 1, ils mine] = some (ils (prodF menuL A), false) := by rw [hA, pm.ok (by omega) (by decide), smul_one]
    have pmin : Pw ((List.range 8).map fun t => if B t < A t then (B t : Int) else (A t : Int)) := Pw.of fun t ht => by have := leA t ht; have := leB t ht; split <;> omega
    have b5 : gBuilt [.int 1, ils ((List.range 8).map fun t => if B t < A t then (B t : Int) else (A t : Int))] = some (ils (prodF menuL fun t => min (A t) (B t)), false) := by
      have e : prodF menuL (expo ((List.range 8).map fun t => if B t < A t then (B t : Int) else (A t : Int))) = prodF menuL fun t => min (A t) (B t) := prodF_congr fun t ht => by
        have ht : t < 8 := ht
        rw [expo8 ht]; split <;> omega
      rw [pmin.ok (by omega) (by decide), smul_one, e]
    have pone : Pw ((List.range 8).map fun t => if A t < 1 then (A t : Int) else (1 : Int)) := Pw.of fun t ht => by have := leA t ht; split <;> omega
    have b6 : gBuilt [.int 1, ils ((List.range 8).map fun t => if A t < 1 then (A t : Int) else (1 : Int))] = some (ils (prodF menuL fun t => min 1 (A t)), false) := by
      have e : prodF menuL (expo ((List.range 8).map fun t => if A t < 1 then (A t : Int) else (1 : Int))) = prodF menuL fun t => min 1 (A t) := prodF_congr fun t ht => by
        have ht : t < 8 := ht
        rw [expo8 ht]; split <;> omega
      rw [pone.ok (by omega) (by decide), smul_one, e]
    have G1 := good_smul n0 nb leA
    have G2 := good_smul k0 kb leB
    have GC := good_prod leC
    have GA := good_prod leA
    have gmin := good_prod (e := fun t => min (A t) (B t)) fun t ht => by have := leA t ht; omega
    have gone := good_prod (e := fun t => min 1 (A t)) fun t ht => by have := leA t ht; omega
    have lA := low_menu A
    have ls : lc (smul n (prodF menuL A)) = n * lc (prodF menuL A) := lc_smul
    -- what the rows are
    have r1 : gPrim [ils (smul n (prodF menuL A))] = some (ils (prodF menuL A), true) := by rw [gPrim_ (by have := G1.len; omega), prim_smul n0 lA]
    have r2 : gGcd [ils (smul n (prodF menuL A)), ils (smul k (prodF menuL B))] = some (ils (prodF menuL fun t => min (A t) (B t)), true) := by rw [gGcd_ (good_gcd G1 G2), gcd_exp n0 k0]
    have r3 : gGcd [ils (smul n (prodF menuL A)), ils []] = some (ils (prodF menuL A), true) := by rw [gGcd_ (good_gcd0 G1), gcd_nil_r n0 lA]
    have r4 : gGcd [ils [], ils (smul n (prodF menuL A))] = some (ils (prodF menuL A), true) := by rw [gGcd_ (good_gcd0' G1), gcd_nil_l n0 lA]
    have r5 := good_sq n0 nb leA
    have rp := repr3 (log_of G1.bd) (log_of G2.bd) (log_of GC.bd) (by have := G1.len; omega) (by have := G2.len; omega) (by have := GC.len; omega)
    have rq := oEq_shown3 (smul n (prodF menuL A)) (smul k (prodF menuL B)) (prodF menuL C)
    have dv := gDiv_ (good_div G1 GC)
    have of1 := fun (c : Nat) h1 h2 l2 => good_often (D := prodF menuL C) (f := C) (c := c) n0 nb leA (low_menu C) l2 (by have := GC.len; omega) GC.bd (fun x => rfl) h1 h2
    have quoC : quo (smul n (prodF menuL A)) (prodF menuL C) = if ∀ t, t < 8 → C t ≤ A t then some (smul n (prodF menuL fun t => A t - C t)) else none := by
      by_cases hle : ∀ t, t < 8 → C t ≤ A t
      · rw [if_pos hle]; exact quo_yes n0 GC.tr GC.ne (fun x => rfl) hle
      · rw [if_neg hle]; exact quo_no n0 (fun x => rfl) hle
    have of2 : ∀ t : Nat, t < 8 → gOften [ils (smul n (prodF menuL A)), ils (menuL.getD t [])] = some (.int (A t : Nat), false) := fun t ht => by
      obtain ⟨lm, l2⟩ := menu_low _ (menu_mem ht)
      refine good_often n0 nb leA lm l2 (by have := (menu_small _ (menu_mem ht)).1; omega) ((menu_bd (menu_mem ht)).mono (Nat.le_trans (by decide : 3 ≤ 2 ^ 2) (Nat.pow_le_pow_right (by omega) (by omega)))) (fun x => ev_unit ht x) (fun s hs => ?_) ⟨t, ht, ?_⟩
      · unfold unit
        split
        · rename_i e; subst e; omega
        · omega
      · unfold unit
        rw [if_pos rfl]; omega
    have r3' : gGcd [ils (smul n (prodF menuL A)), .list []] = some (ils (prodF menuL A), true) := r3
    have r4' : gGcd [.list [], ils (smul n (prodF menuL A))] = some (ils (prodF menuL A), true) := r4
    generalize hone : smul n (prodF menuL A) = one at *
    generalize htwo : smul k (prodF menuL B) = two at *
    generalize hP : prodF menuL A = plain at *
    generalize hQ : prodF menuL C = part at *
    generalize hS : (prodF menuL fun t => min (A t) (B t)) = shared at *
    generalize hR : (prodF menuL fun t => min 1 (A t)) = sqf at *
    generalize htx : PyData.shown (.tuple [ils one, ils two, ils part]) = tx at *
    unfold T_x_law_powers_told
    refine ⟨ils mine, by walk_at "pd"; rw [gm]; rfl, ?_⟩
    refine ⟨ils other, by walk_at "pd"; rw [go]; rfl, ?_⟩
    refine ⟨ils few, by walk_at "pd"; rw [gf]; rfl, ?_⟩
    show pSeq _ _ _ _
    refine pEnv_eq (env' := [some (ils ns, false), some (ils mine, false), some (ils other, false), some (ils few, false), none, none, none, none, none, none, none, none, none, none, none, none, none]) rfl ?_
    refine ⟨ils one, by walk_at "pd"; rw [gn]; walk_at "pd"; rw [b1]; rfl, ?_⟩
    refine ⟨ils two, by walk_at "pd"; rw [gn2]; walk_at "pd"; rw [b2]; rfl, ?_⟩
    refine ⟨ils part, by walk_at "pd"; rw [b3]; rfl, ?_⟩
    refine ⟨ils plain, by walk_at "pd"; rw [b4]; rfl, ?_⟩
    show pSeq _ _ _ _
    refine pEnv_eq (env' := [some (ils ns, false), some (ils mine, false), some (ils other, false), some (ils few, false), some (ils one, false), some (ils two, false), some (ils part, false), some (ils plain, false), none, none, none, none, none, none, none, none, none]) rfl ?_
    refine ⟨ils shared, ?_, ?_⟩
    · rw [fDef_, fCons_, fCons_, fL_, comp8 (fun t => if B t < A t then (B t : Int) else (A t : Int)) (fun t ht => by
        walk_at "pd"
        rw [atA ht, atB ht]
        walk_at "pd"
        split
        · rename_i hlt; rw [if_pos (by omega)]
        · rename_i hlt; rw [if_neg (by omega)])]
      walk_at "pd"
      rw [b5]
      rfl
    refine ⟨.str tx, by walk_at "pd"; rw [if_pos (by omega)]; walk_at "pd"; rw [rp], ?_⟩
    show pSeq _ _ _ _
    refine pEnv_eq (env' := [some (ils ns, false), some (ils mine, false), some (ils other, false), some (ils few, false), some (ils one, false), some (ils two, false), some (ils part, false), some (ils plain, false), none, some (ils shared, false), some (.str tx, false), none, none, none, none, none, none]) rfl ?_
    refine ⟨_, iR1_len (n := 2) rfl (by omega), fun i env => ∃ y11, env = [some (ils ns, false), some (ils mine, false), some (ils other, false), some (ils few, false), some (ils one, false), some (ils two, false), some (ils part, false), some (ils plain, false), none, some (ils shared, false), some (.str tx, false), y11, none, none, none, none, none], ⟨none, rfl⟩, ?_, ?_⟩
    · rintro i _ _ hi ⟨y11, rfl⟩
      refine ⟨_, rfl, ?_⟩
      show pYoung _ _ _ _ _ _ _
      have lP := GA.len
      have lS := gmin.len
      have lR := gone.len
      refine ⟨by simp, by simp, [ils plain, ils shared, ils plain, ils plain, ils sqf], ?_, by simp, ?_, ?_, _, rfl⟩
      · walk_at "pd"
        rw [if_pos (show 0 ≤ 1000 by omega)]
        walk_at "pd"
        rw [r1, r2, r3', r4', r5]
        walk_at "pd"
        rw [if_pos (by omega), if_pos (by omega), if_pos (by omega)]
        walk_at "pd"
      · rw [fB_, fBin_, fL_, fLst_, fCons_, fCons_, fCons_, fCons_, fCons_, fDef_, fCons_, fCons_, fL_, comp8 (fun t => if A t < 1 then (A t : Int) else (1 : Int)) (fun t ht => by
          walk_at "pd"
          rw [atA ht]
          walk_at "pd"
          split
          · rename_i hlt; rw [if_pos (by omega)]
          · rename_i hlt; rw [if_neg (by omega)])]
        walk_at "pd"
        rw [b6]
        walk_at "pd"
        rw [if_pos (by omega)]
        walk_at "pd"
        have e := oNe_rows (ps := [plain, shared, plain, plain, sqf]) (qs := [plain, shared, plain, plain, sqf])
        rw [decide_eq_true rfl] at e
        have e : oNe (.list [ils plain, ils shared, ils plain, ils plain, ils sqf]) (.list [ils plain, ils shared, ils plain, ils plain, ils sqf]) = some (.bool false) := e
        rw [e]
        walk_at "pd"
      · have ec : fComp [13] (iL (fVarV 12)) (bN 13) (fNot (fB (fDef gIsList (fCons (fVarV 13) fNil)))) (fVarV 13) [some (ils ns, false), some (ils mine, false), some (ils other, false), some (ils few, false), some (ils one, false), some (ils two, false), some (ils part, false), some (ils plain, false), none, some (ils shared, false), some (.str tx, false), some (.int (0 + (i : Int)), false), some (.list [ils plain, ils shared, ils plain, ils plain, ils sqf], false), none, none, none, none] = some [] := by
          unfold fComp
          walk_at "pd"
          rw [if_pos (by omega), compL_map (fun _ => false) id]
          · simp
          · intro d hd
            have hp : ∃ p : P, d = ils p ∧ p.length ≤ 100000 := by
              rcases List.mem_cons.mp hd with rfl | hd
              · exact ⟨_, rfl, by omega⟩
              rcases List.mem_cons.mp hd with rfl | hd
              · exact ⟨_, rfl, by omega⟩
              rcases List.mem_cons.mp hd with rfl | hd
              · exact ⟨_, rfl, by omega⟩
              rcases List.mem_cons.mp hd with rfl | hd
              · exact ⟨_, rfl, by omega⟩
              rw [List.mem_singleton.mp hd]
              exact ⟨_, rfl, by omega⟩
            obtain ⟨p, rfl, hp⟩ := hp
            refine ⟨_, rfl, ?_, fun z => nomatch z⟩
            walk_at "pd"
            rw [gIsList_ hp]
            walk_at "pd"
        rw [fB_, fBin_, fE, fL_]
        refine Eq.trans (congrArg (fun z => ((Option.map PyData.list z).bind fun x => (some (PyData.list [])).bind fun y => oNe x y).bind _) ec) ?_
        have e := oNe_ils (p := []) (q := [])
        have e : oNe (.list []) (.list []) = some (.bool false) := e
        walk_at "pd"
        rw [e]
        walk_at "pd"
    · rintro _ ⟨y11, rfl⟩
      refine ⟨.none, rfl, ?_⟩
      show pSeq _ _ _ _
      refine pEnv_eq (env' := [some (ils ns, false), some (ils mine, false), some (ils other, false), some (ils few, false), some (ils one, false), some (ils two, false), some (ils part, false), some (ils plain, false), none, some (ils shared, false), some (.str tx, false), y11, none, none, some (.none, false), none, none]) rfl ?_
      obtain ⟨fs, hfs⟩ : ∃ fs : List Int, fs = ((List.range 8).filter fun t => decide (A t < C t)).map fun (t : Nat) => (t : Int) := ⟨_, rfl⟩
      have hfl : fs = [] ↔ ∀ t, t < 8 → C t ≤ A t := by
        rw [hfs, List.map_eq_nil_iff, List.filter_eq_nil_iff]
        constructor
        · intro z t ht
          have := z t (List.mem_range.mpr ht)
          simp at this
          exact this
        · intro z t ht
          have := z t (List.mem_range.mp ht)
          simp
          exact this
      refine ⟨decide (fs = []), ?_, ?_⟩
      · rw [fB_, fBin_, fE, fL_, comp8f (fun t => decide (A t < C t)) (fun t => (t : Int)) (fun t ht => by
          walk_at "pd"
          rw [atC ht, atA ht]
          walk_at "pd"
          by_cases hz : A t < C t
          · rw [decide_eq_true hz, decide_eq_true (by omega)]
          · rw [decide_eq_false hz, decide_eq_false (by omega)]) (fun t ht hp => by walk_at "pd"), ← hfs]
        walk_at "pd"
      · by_cases hle : ∀ t, t < 8 → C t ≤ A t
        · rw [if_pos (decide_eq_true (hfl.mpr hle))]
          rw [if_pos hle] at quoC
          rw [quoC] at dv
          have pdif : Pw ((List.range 8).map fun t => (A t : Int) - (C t : Int)) := Pw.of fun t ht => by have := leA t ht; have := hle t ht; omega
          have b7 : gBuilt [.int n, ils ((List.range 8).map fun t => (A t : Int) - (C t : Int))] = some (ils (smul n (prodF menuL fun t => A t - C t)), false) := by
            have e : prodF menuL (expo ((List.range 8).map fun t => (A t : Int) - (C t : Int))) = prodF menuL fun t => A t - C t := prodF_congr fun t ht => by
              have ht : t < 8 := ht
              rw [expo8 ht]; omega
            rw [pdif.ok n0 nb, e]
          have nP := lA.ne
          have pP := lA.pos
          refine ⟨ils (smul n (prodF menuL fun t => A t - C t)), ?_, ?_⟩
          · rw [fDef_, fCons_, fCons_, fL_, comp8 (fun t => (A t : Int) - (C t : Int)) (fun t ht => by
              walk_at "pd"
              rw [atA ht, atC ht]
              walk_at "pd")]
            walk_at "pd"
            rw [atI_neg G1.ne, atI_neg nP]
            walk_at "pd"
            rw [getLast_lc, getLast_lc, ls, if_neg (by omega), fdiv_self_mul (by omega)]
            walk_at "pd"
            rw [b7]
            walk_at "pd"
          · exact w_pt_tail (o := some (smul n (prodF menuL fun t => A t - C t))) ⟨rfl, rfl⟩ atA atC dv (fun q hq => by
              cases hq
              have := (good_smul n0 nb (e := fun t => A t - C t) fun t ht => by have := leA t ht; omega).len
              omega) (fun c h1 h2 => of1 c h1 h2 (by
              rw [← hQ]
              obtain ⟨t, ht, h3⟩ := h2
              refine prod_len ⟨t, ht, ?_⟩
              apply Nat.pos_of_ne_zero
              intro z
              rw [z] at h3
              omega)) of2 rp rq
        · rw [if_neg (by simpa using fun z => hle (hfl.mp z))]
          rw [if_neg hle] at quoC
          rw [quoC] at dv
          exact w_pt_tail (o := none) ⟨rfl, rfl⟩ atA atC dv (fun q hq => nomatch hq) (fun c h1 h2 => of1 c h1 h2 (by
            rw [← hQ]
            obtain ⟨t, ht, h3⟩ := h2
            refine prod_len ⟨t, ht, ?_⟩
            apply Nat.pos_of_ne_zero
            intro z
            rw [z] at h3
            omega)) of2 rp rq
  · cases h2
end K78

set_option Elab.async false
set_option linter.all false
set_option maxRecDepth 100000
set_option maxHeartbeats 4000000
set_option autoImplicit false
namespace K78
open PySem PD Pl L2
local macro_rules | `(tactic| walk_at "pd") => `(tactic| simp -implicitDefEqProofs only [pNext_, pSeq_, pDrop_, pMove_, pYoung_, fWhole_, fShort_, pSetV_, pSetF_, pSetG_, pPar_, pItem_, pApp_, pRetV_, pRetF_, pRetN_, pRet0_, pBreak_, pCont_, pIf_, endsOf_rt, endsOf_nx, fC_, fBin_, fUn_, fNil_, fCons_, fTup_, fLst_, fL_, fCall_, fIx_, fO0_, fAnd_, fOr_, fNot_, fIf_, fTru_, fDef_, fYes_, bN_, fVar_, fVarV_, fB_, fO1_, fSl_, fList_, fDefF_, ints?_map, iL_, fAndV_, fOrV_, iR1_, iR2_, iRev1_, dropE_nil, dropE_cons, drop1_, wipeE_nil, wipeE_cons, startE_,
  oI_, oB_, oAdd_, oSub_, oMul_, oDivZ_, oMod_, oPow_, oLt_, oLe_, oGt_, oGe_, oNeg_, oNot_, oIsN_, oEq_int, oNe_int, oEq_ils, oNe_ils, oEq_nil, oNe_nil, oNe_none, oEq_none, oNe_none_ils, oNe_ils_none, oAbs_, oInt_, oIntb_, oMax2_, oMin2_, oLen_, oLenT_, oIx_, oBits_, truI_, g1_, g2_, g3_, dInts_, dInt_, dAny_,
  List.getElem?_cons_zero, List.getElem?_cons_succ, List.set_cons_zero, List.set_cons_succ, Nat.zero_add, Nat.reduceAdd, Nat.reduceSub, List.replicate_succ, List.replicate_zero, Option.bind_some, Option.map_some, List.map_cons, List.map_nil, List.length_cons, List.length_nil, List.cons_append, List.nil_append, List.length_map, Option.some.injEq, exists_eq_left', Bool.false_eq_true, if_true, if_false, decide_true, decide_false, Bool.not_true, Bool.not_false, Bool.true_and, Bool.false_and, and_true, true_and])
/-! ### law -/
def gLaw : GD := g1 dInts fun s => if s.length ≤ 63 then some (.bool true, false) else none
theorem gLaw_ {s : List Int} (h : s.length ≤ 63) : gLaw [ils s] = some (.bool true, false) := by
  rw [gLaw, g1_, dInts_, Option.bind_some]
  exact if_pos h
theorem w_law (ds : List PyData) (d : PyData) (b : Bool) (h : gLaw ds = some (d, b)) : T_law gDraws gPrim gGcd gDiv gPT gOthers (endsOf d b) (startE 2 ds) := by
  obtain ⟨_, s, rfl, h1, h2⟩ := g1_inv h
  cases dInts_eq h1
  split at h2
  · rename_i hs
    cases h2
    have hd := drawn_ok hs
    unfold T_law
    refine ⟨ils (drawsTo s s.length), by walk_at "pd"; rw [gDraws_ hs]; rfl, ?_⟩
    have p0 : gPrim [.list []] = some (.list [], true) := by
      have := gPrim_ (p := []) (by simp)
      rw [prim_nil] at this
      exact this
    have g0 : gGcd [.list [], .list []] = some (.list [], true) := by
      have := gGcd_ (a := []) (b := []) ⟨tr_nil, tr_nil, 0, 0, by simp, by simp, by omega, Bd.nil _, Bd.nil _, by decide⟩
      rw [gcd_nil] at this
      exact this
    have d0 : gDiv [.list [], .list [.int 1, .int 1]] = some (.list [], true) := by
      have t11 : Tr ([1, 1] : P) := tr_of_lc (by decide)
      have := gDiv_ (a := []) (t := [1, 1]) ⟨tr_nil, t11, by simp, by simp, by simp, 1, Bd.nil _, fun k => by
        match k with
        | 0 => decide
        | 1 => decide
        | k + 2 => simp [co], by decide⟩
      rw [quo_some (q := []) t11 (by simp) tr_nil fun x => by simp] at this
      exact this
    have e0 : oNe (.list []) (.list []) = some (.bool false) := oNe_ils (p := []) (q := [])
    refine ⟨false, ?_, ?_⟩
    · rw [fOr_, fOr_]
      walk_at "pd"
      rw [if_pos (show 0 ≤ 1000 by omega)]
      walk_at "pd"
      rw [p0, g0]
      walk_at "pd"
      rw [e0]
      walk_at "pd"
      rw [if_pos (by omega)]
      walk_at "pd"
      rw [d0]
      walk_at "pd"
      rw [e0]
      walk_at "pd"
    · rw [if_neg Bool.false_ne_true]
      refine ⟨.bool true, ?_, rfl, rfl⟩
      rw [fAndV_]
      walk_at "pd"
      rw [gPT_ hd, gOthers_ hd]
      walk_at "pd"
  · cases h2
end K78

set_option Elab.async false
set_option linter.all false
set_option maxRecDepth 100000
set_option maxHeartbeats 4000000
set_option autoImplicit false
namespace K78
open PySem PD Pl L2
open PyProof.Rows hiding St
theorem menu_len (ds : List PyData) (r : PyData × Bool) (h : gMenu ds = some r) : ds.length = 0 := by
  cases ds with
  | nil => rfl
  | cons a t => cases h
theorem all_mk {w : World} {K : PySem.W.Frag} {h : Heap} {mg : Str → Option Value} {fa : Addr} (X : K.In h) (G : h.Ns mainGlobals mg) (hfa : mg "law" = some (.ref fa)) (htree : PySem.Challenge.pw_unsaidsizes_k78_factors_of_polynomials.given.tree = none)
    {f0 : Addr} {od0 an0 : Option Addr} {sl0 : Array (Option Value)} {oc0 kV0 dc0 pm0 cd0 ct0 : Value}
    (a0 : PySem.W.nsIn K mainGlobals "trimmed" = some (some (.ref f0))) (l0 : K.lookup f0 = some ⟨oc0, od0, .func (PySem.W.fnOf "trimmed" "trimmed" (defArgs s_trimmed) (defBody s_trimmed) (defScope s_trimmed) .none kV0 dc0 pm0 an0 cd0 ct0), sl0⟩)
    (c0 : PySem.W.codeIn K cd0 "trimmed" = true) (k0 : PySem.W.keepIn K (.ref f0) = true)
    {f1 : Addr} {od1 an1 : Option Addr} {sl1 : Array (Option Value)} {oc1 kV1 dc1 pm1 cd1 ct1 : Value}
    (a1 : PySem.W.nsIn K mainGlobals "plus" = some (some (.ref f1))) (l1 : K.lookup f1 = some ⟨oc1, od1, .func (PySem.W.fnOf "plus" "plus" (defArgs s_plus) (defBody s_plus) (defScope s_plus) .none kV1 dc1 pm1 an1 cd1 ct1), sl1⟩)
    (c1 : PySem.W.codeIn K cd1 "plus" = true) (k1 : PySem.W.keepIn K (.ref f1) = true)
    {f2 : Addr} {od2 an2 : Option Addr} {sl2 : Array (Option Value)} {oc2 kV2 dc2 pm2 cd2 ct2 : Value}
    (a2 : PySem.W.nsIn K mainGlobals "scaled" = some (some (.ref f2))) (l2 : K.lookup f2 = some ⟨oc2, od2, .func (PySem.W.fnOf "scaled" "scaled" (defArgs s_scaled) (defBody s_scaled) (defScope s_scaled) .none kV2 dc2 pm2 an2 cd2 ct2), sl2⟩)
    (c2 : PySem.W.codeIn K cd2 "scaled" = true) (k2 : PySem.W.keepIn K (.ref f2) = true)
    {f3 : Addr} {od3 an3 : Option Addr} {sl3 : Array (Option Value)} {oc3 kV3 dc3 pm3 cd3 ct3 : Value}
    (a3 : PySem.W.nsIn K mainGlobals "raised" = some (some (.ref f3))) (l3 : K.lookup f3 = some ⟨oc3, od3, .func (PySem.W.fnOf "raised" "raised" (defArgs s_raised) (defBody s_raised) (defScope s_raised) .none kV3 dc3 pm3 an3 cd3 ct3), sl3⟩)
    (c3 : PySem.W.codeIn K cd3 "raised" = true) (k3 : PySem.W.keepIn K (.ref f3) = true)
    {f4 : Addr} {od4 an4 : Option Addr} {sl4 : Array (Option Value)} {oc4 kV4 dc4 pm4 cd4 ct4 : Value}
    (a4 : PySem.W.nsIn K mainGlobals "common_divisor" = some (some (.ref f4))) (l4 : K.lookup f4 = some ⟨oc4, od4, .func (PySem.W.fnOf "common_divisor" "common_divisor" (defArgs s_common_divisor) (defBody s_common_divisor) (defScope s_common_divisor) .none kV4 dc4 pm4 an4 cd4 ct4), sl4⟩)
    (c4 : PySem.W.codeIn K cd4 "common_divisor" = true) (k4 : PySem.W.keepIn K (.ref f4) = true)
    {f5 : Addr} {od5 an5 : Option Addr} {sl5 : Array (Option Value)} {oc5 kV5 dc5 pm5 cd5 ct5 : Value}
    (a5 : PySem.W.nsIn K mainGlobals "primitive" = some (some (.ref f5))) (l5 : K.lookup f5 = some ⟨oc5, od5, .func (PySem.W.fnOf "primitive" "primitive" (defArgs s_primitive) (defBody s_primitive) (defScope s_primitive) .none kV5 dc5 pm5 an5 cd5 ct5), sl5⟩)
    (c5 : PySem.W.codeIn K cd5 "primitive" = true) (k5 : PySem.W.keepIn K (.ref f5) = true)
    {f6 : Addr} {od6 an6 : Option Addr} {sl6 : Array (Option Value)} {oc6 kV6 dc6 pm6 cd6 ct6 : Value}
    (a6 : PySem.W.nsIn K mainGlobals "remainder" = some (some (.ref f6))) (l6 : K.lookup f6 = some ⟨oc6, od6, .func (PySem.W.fnOf "remainder" "remainder" (defArgs s_remainder) (defBody s_remainder) (defScope s_remainder) .none kV6 dc6 pm6 an6 cd6 ct6), sl6⟩)
    (c6 : PySem.W.codeIn K cd6 "remainder" = true) (k6 : PySem.W.keepIn K (.ref f6) = true)
    {f7 : Addr} {od7 an7 : Option Addr} {sl7 : Array (Option Value)} {oc7 kV7 dc7 pm7 cd7 ct7 : Value}
    (a7 : PySem.W.nsIn K mainGlobals "gcd" = some (some (.ref f7))) (l7 : K.lookup f7 = some ⟨oc7, od7, .func (PySem.W.fnOf "gcd" "gcd" (defArgs s_gcd) (defBody s_gcd) (defScope s_gcd) .none kV7 dc7 pm7 an7 cd7 ct7), sl7⟩)
    (c7 : PySem.W.codeIn K cd7 "gcd" = true) (k7 : PySem.W.keepIn K (.ref f7) = true)
    {f8 : Addr} {od8 an8 : Option Addr} {sl8 : Array (Option Value)} {oc8 kV8 dc8 pm8 cd8 ct8 : Value}
    (a8 : PySem.W.nsIn K mainGlobals "divided" = some (some (.ref f8))) (l8 : K.lookup f8 = some ⟨oc8, od8, .func (PySem.W.fnOf "divided" "divided" (defArgs s_divided) (defBody s_divided) (defScope s_divided) .none kV8 dc8 pm8 an8 cd8 ct8), sl8⟩)
    (c8 : PySem.W.codeIn K cd8 "divided" = true) (k8 : PySem.W.keepIn K (.ref f8) = true)
    {f9 : Addr} {od9 an9 : Option Addr} {sl9 : Array (Option Value)} {oc9 kV9 dc9 pm9 cd9 ct9 : Value}
    (a9 : PySem.W.nsIn K mainGlobals "often" = some (some (.ref f9))) (l9 : K.lookup f9 = some ⟨oc9, od9, .func (PySem.W.fnOf "often" "often" (defArgs s_often) (defBody s_often) (defScope s_often) .none kV9 dc9 pm9 an9 cd9 ct9), sl9⟩)
    (c9 : PySem.W.codeIn K cd9 "often" = true) (k9 : PySem.W.keepIn K (.ref f9) = true)
    {f10 : Addr} {od10 an10 : Option Addr} {sl10 : Array (Option Value)} {oc10 kV10 dc10 pm10 cd10 ct10 : Value}
    (a10 : PySem.W.nsIn K mainGlobals "squarefree" = some (some (.ref f10))) (l10 : K.lookup f10 = some ⟨oc10, od10, .func (PySem.W.fnOf "squarefree" "squarefree" (defArgs s_squarefree) (defBody s_squarefree) (defScope s_squarefree) .none kV10 dc10 pm10 an10 cd10 ct10), sl10⟩)
    (c10 : PySem.W.codeIn K cd10 "squarefree" = true) (k10 : PySem.W.keepIn K (.ref f10) = true)
    {f11 : Addr} {od11 an11 : Option Addr} {sl11 : Array (Option Value)} {oc11 kV11 dc11 pm11 cd11 ct11 : Value}
    (a11 : PySem.W.nsIn K mainGlobals "_law_draws" = some (some (.ref f11))) (l11 : K.lookup f11 = some ⟨oc11, od11, .func (PySem.W.fnOf "_law_draws" "_law_draws" (defArgs s_x_law_draws) (defBody s_x_law_draws) (defScope s_x_law_draws) .none kV11 dc11 pm11 an11 cd11 ct11), sl11⟩)
    (c11 : PySem.W.codeIn K cd11 "_law_draws" = true) (k11 : PySem.W.keepIn K (.ref f11) = true)
    {f12 : Addr} {od12 an12 : Option Addr} {sl12 : Array (Option Value)} {oc12 kV12 dc12 pm12 cd12 ct12 : Value}
    (a12 : PySem.W.nsIn K mainGlobals "_law_mix" = some (some (.ref f12))) (l12 : K.lookup f12 = some ⟨oc12, od12, .func (PySem.W.fnOf "_law_mix" "_law_mix" (defArgs s_x_law_mix) (defBody s_x_law_mix) (defScope s_x_law_mix) .none kV12 dc12 pm12 an12 cd12 ct12), sl12⟩)
    (c12 : PySem.W.codeIn K cd12 "_law_mix" = true) (k12 : PySem.W.keepIn K (.ref f12) = true)
    {f13 : Addr} {od13 an13 : Option Addr} {sl13 : Array (Option Value)} {oc13 kV13 dc13 pm13 cd13 ct13 : Value}
    (a13 : PySem.W.nsIn K mainGlobals "_law_trimmed" = some (some (.ref f13))) (l13 : K.lookup f13 = some ⟨oc13, od13, .func (PySem.W.fnOf "_law_trimmed" "_law_trimmed" (defArgs s_x_law_trimmed) (defBody s_x_law_trimmed) (defScope s_x_law_trimmed) .none kV13 dc13 pm13 an13 cd13 ct13), sl13⟩)
    (c13 : PySem.W.codeIn K cd13 "_law_trimmed" = true) (k13 : PySem.W.keepIn K (.ref f13) = true)
    {f14 : Addr} {od14 an14 : Option Addr} {sl14 : Array (Option Value)} {oc14 kV14 dc14 pm14 cd14 ct14 : Value}
    (a14 : PySem.W.nsIn K mainGlobals "_law_times" = some (some (.ref f14))) (l14 : K.lookup f14 = some ⟨oc14, od14, .func (PySem.W.fnOf "_law_times" "_law_times" (defArgs s_x_law_times) (defBody s_x_law_times) (defScope s_x_law_times) .none kV14 dc14 pm14 an14 cd14 ct14), sl14⟩)
    (c14 : PySem.W.codeIn K cd14 "_law_times" = true) (k14 : PySem.W.keepIn K (.ref f14) = true)
    {f15 : Addr} {od15 an15 : Option Addr} {sl15 : Array (Option Value)} {oc15 kV15 dc15 pm15 cd15 ct15 : Value}
    (a15 : PySem.W.nsIn K mainGlobals "_law_divisor" = some (some (.ref f15))) (l15 : K.lookup f15 = some ⟨oc15, od15, .func (PySem.W.fnOf "_law_divisor" "_law_divisor" (defArgs s_x_law_divisor) (defBody s_x_law_divisor) (defScope s_x_law_divisor) .none kV15 dc15 pm15 an15 cd15 ct15), sl15⟩)
    (c15 : PySem.W.codeIn K cd15 "_law_divisor" = true) (k15 : PySem.W.keepIn K (.ref f15) = true)
    {f16 : Addr} {od16 an16 : Option Addr} {sl16 : Array (Option Value)} {oc16 kV16 dc16 pm16 cd16 ct16 : Value}
    (a16 : PySem.W.nsIn K mainGlobals "_law_lowest" = some (some (.ref f16))) (l16 : K.lookup f16 = some ⟨oc16, od16, .func (PySem.W.fnOf "_law_lowest" "_law_lowest" (defArgs s_x_law_lowest) (defBody s_x_law_lowest) (defScope s_x_law_lowest) .none kV16 dc16 pm16 an16 cd16 ct16), sl16⟩)
    (c16 : PySem.W.codeIn K cd16 "_law_lowest" = true) (k16 : PySem.W.keepIn K (.ref f16) = true)
    {f17 : Addr} {od17 an17 : Option Addr} {sl17 : Array (Option Value)} {oc17 kV17 dc17 pm17 cd17 ct17 : Value}
    (a17 : PySem.W.nsIn K mainGlobals "_law_common" = some (some (.ref f17))) (l17 : K.lookup f17 = some ⟨oc17, od17, .func (PySem.W.fnOf "_law_common" "_law_common" (defArgs s_x_law_common) (defBody s_x_law_common) (defScope s_x_law_common) .none kV17 dc17 pm17 an17 cd17 ct17), sl17⟩)
    (c17 : PySem.W.codeIn K cd17 "_law_common" = true) (k17 : PySem.W.keepIn K (.ref f17) = true)
    {f18 : Addr} {od18 an18 : Option Addr} {sl18 : Array (Option Value)} {oc18 kV18 dc18 pm18 cd18 ct18 : Value}
    (a18 : PySem.W.nsIn K mainGlobals "_law_divided" = some (some (.ref f18))) (l18 : K.lookup f18 = some ⟨oc18, od18, .func (PySem.W.fnOf "_law_divided" "_law_divided" (defArgs s_x_law_divided) (defBody s_x_law_divided) (defScope s_x_law_divided) .none kV18 dc18 pm18 an18 cd18 ct18), sl18⟩)
    (c18 : PySem.W.codeIn K cd18 "_law_divided" = true) (k18 : PySem.W.keepIn K (.ref f18) = true)
    {f19 : Addr} {od19 an19 : Option Addr} {sl19 : Array (Option Value)} {oc19 kV19 dc19 pm19 cd19 ct19 : Value}
    (a19 : PySem.W.nsIn K mainGlobals "_law_is_list" = some (some (.ref f19))) (l19 : K.lookup f19 = some ⟨oc19, od19, .func (PySem.W.fnOf "_law_is_list" "_law_is_list" (defArgs s_x_law_is_list) (defBody s_x_law_is_list) (defScope s_x_law_is_list) .none kV19 dc19 pm19 an19 cd19 ct19), sl19⟩)
    (c19 : PySem.W.codeIn K cd19 "_law_is_list" = true) (k19 : PySem.W.keepIn K (.ref f19) = true)
    {f20 : Addr} {od20 an20 : Option Addr} {sl20 : Array (Option Value)} {oc20 kV20 dc20 pm20 cd20 ct20 : Value}
    (a20 : PySem.W.nsIn K mainGlobals "_law_menu" = some (some (.ref f20))) (l20 : K.lookup f20 = some ⟨oc20, od20, .func (PySem.W.fnOf "_law_menu" "_law_menu" (defArgs s_x_law_menu) (defBody s_x_law_menu) (defScope s_x_law_menu) .none kV20 dc20 pm20 an20 cd20 ct20), sl20⟩)
    (c20 : PySem.W.codeIn K cd20 "_law_menu" = true) (k20 : PySem.W.keepIn K (.ref f20) = true)
    {f21 : Addr} {od21 an21 : Option Addr} {sl21 : Array (Option Value)} {oc21 kV21 dc21 pm21 cd21 ct21 : Value}
    (a21 : PySem.W.nsIn K mainGlobals "_law_built" = some (some (.ref f21))) (l21 : K.lookup f21 = some ⟨oc21, od21, .func (PySem.W.fnOf "_law_built" "_law_built" (defArgs s_x_law_built) (defBody s_x_law_built) (defScope s_x_law_built) .none kV21 dc21 pm21 an21 cd21 ct21), sl21⟩)
    (c21 : PySem.W.codeIn K cd21 "_law_built" = true) (k21 : PySem.W.keepIn K (.ref f21) = true)
    {f22 : Addr} {od22 an22 : Option Addr} {sl22 : Array (Option Value)} {oc22 kV22 dc22 pm22 cd22 ct22 : Value}
    (a22 : PySem.W.nsIn K mainGlobals "_law_powers" = some (some (.ref f22))) (l22 : K.lookup f22 = some ⟨oc22, od22, .func (PySem.W.fnOf "_law_powers" "_law_powers" (defArgs s_x_law_powers) (defBody s_x_law_powers) (defScope s_x_law_powers) .none kV22 dc22 pm22 an22 cd22 ct22), sl22⟩)
    (c22 : PySem.W.codeIn K cd22 "_law_powers" = true) (k22 : PySem.W.keepIn K (.ref f22) = true)
    {f23 : Addr} {od23 an23 : Option Addr} {sl23 : Array (Option Value)} {oc23 kV23 dc23 pm23 cd23 ct23 : Value}
    (a23 : PySem.W.nsIn K mainGlobals "_law_number" = some (some (.ref f23))) (l23 : K.lookup f23 = some ⟨oc23, od23, .func (PySem.W.fnOf "_law_number" "_law_number" (defArgs s_x_law_number) (defBody s_x_law_number) (defScope s_x_law_number) .none kV23 dc23 pm23 an23 cd23 ct23), sl23⟩)
    (c23 : PySem.W.codeIn K cd23 "_law_number" = true) (k23 : PySem.W.keepIn K (.ref f23) = true)
    {f24 : Addr} {od24 an24 : Option Addr} {sl24 : Array (Option Value)} {oc24 kV24 dc24 pm24 cd24 ct24 : Value}
    (a24 : PySem.W.nsIn K mainGlobals "_law_any" = some (some (.ref f24))) (l24 : K.lookup f24 = some ⟨oc24, od24, .func (PySem.W.fnOf "_law_any" "_law_any" (defArgs s_x_law_any) (defBody s_x_law_any) (defScope s_x_law_any) .none kV24 dc24 pm24 an24 cd24 ct24), sl24⟩)
    (c24 : PySem.W.codeIn K cd24 "_law_any" = true) (k24 : PySem.W.keepIn K (.ref f24) = true)
    {f25 : Addr} {od25 an25 : Option Addr} {sl25 : Array (Option Value)} {oc25 kV25 dc25 pm25 cd25 ct25 : Value}
    (a25 : PySem.W.nsIn K mainGlobals "_law_powers_told" = some (some (.ref f25))) (l25 : K.lookup f25 = some ⟨oc25, od25, .func (PySem.W.fnOf "_law_powers_told" "_law_powers_told" (defArgs s_x_law_powers_told) (defBody s_x_law_powers_told) (defScope s_x_law_powers_told) .none kV25 dc25 pm25 an25 cd25 ct25), sl25⟩)
    (c25 : PySem.W.codeIn K cd25 "_law_powers_told" = true) (k25 : PySem.W.keepIn K (.ref f25) = true)
    {f26 : Addr} {od26 an26 : Option Addr} {sl26 : Array (Option Value)} {oc26 kV26 dc26 pm26 cd26 ct26 : Value}
    (a26 : PySem.W.nsIn K mainGlobals "_law_others_told" = some (some (.ref f26))) (l26 : K.lookup f26 = some ⟨oc26, od26, .func (PySem.W.fnOf "_law_others_told" "_law_others_told" (defArgs s_x_law_others_told) (defBody s_x_law_others_told) (defScope s_x_law_others_told) .none kV26 dc26 pm26 an26 cd26 ct26), sl26⟩)
    (c26 : PySem.W.codeIn K cd26 "_law_others_told" = true) (k26 : PySem.W.keepIn K (.ref f26) = true)
    {f27 : Addr} {od27 an27 : Option Addr} {sl27 : Array (Option Value)} {oc27 kV27 dc27 pm27 cd27 ct27 : Value}
    (a27 : PySem.W.nsIn K mainGlobals "law" = some (some (.ref f27))) (l27 : K.lookup f27 = some ⟨oc27, od27, .func (PySem.W.fnOf "law" "law" (defArgs s_law) (defBody s_law) (defScope s_law) .none kV27 dc27 pm27 an27 cd27 ct27), sl27⟩)
    (c27 : PySem.W.codeIn K cd27 "law" = true) (k27 : PySem.W.keepIn K (.ref f27) = true)
    (z_abs : PySem.W.nsIn K mainGlobals "abs" = some none)
    (z_all : PySem.W.nsIn K mainGlobals "all" = some none)
    (z_any : PySem.W.nsIn K mainGlobals "any" = some none)
    (z_bool : PySem.W.nsIn K mainGlobals "bool" = some none)
    (z_dict : PySem.W.nsIn K mainGlobals "dict" = some none)
    (z_enumerate : PySem.W.nsIn K mainGlobals "enumerate" = some none)
    (z_int : PySem.W.nsIn K mainGlobals "int" = some none)
    (z_isinstance : PySem.W.nsIn K mainGlobals "isinstance" = some none)
    (z_len : PySem.W.nsIn K mainGlobals "len" = some none)
    (z_list : PySem.W.nsIn K mainGlobals "list" = some none)
    (z_max : PySem.W.nsIn K mainGlobals "max" = some none)
    (z_min : PySem.W.nsIn K mainGlobals "min" = some none)
    (z_range : PySem.W.nsIn K mainGlobals "range" = some none)
    (z_repr : PySem.W.nsIn K mainGlobals "repr" = some none)
    (z_reversed : PySem.W.nsIn K mainGlobals "reversed" = some none)
    (z_set : PySem.W.nsIn K mainGlobals "set" = some none)
    (z_sorted : PySem.W.nsIn K mainGlobals "sorted" = some none)
    (z_str : PySem.W.nsIn K mainGlobals "str" = some none)
    (z_sum : PySem.W.nsIn K mainGlobals "sum" = some none)
    (z_tuple : PySem.W.nsIn K mainGlobals "tuple" = some none)
    (z_zip : PySem.W.nsIn K mainGlobals "zip" = some none) :
    ∃ fd : FuncData, (∀ (s : Shared) (v : Value), BindsTo s fd ⟨[v], []⟩ [("script", v)]) ∧ ∀ base : Heap, K.In base → base.Ns mainGlobals mg → base.NoSeer → FnOkG PySem.Challenge.pw_unsaidsizes_k78_factors_of_polynomials w K mg base CX0 47 fa fd ["script"] (spD K gLaw) := by
  have e := hfa.symm.trans (PySem.W.mg_of X G a27)
  cases e
  have B : Bi mg := ⟨PySem.W.mg_none_of X G z_abs, PySem.W.mg_none_of X G z_all, PySem.W.mg_none_of X G z_any, PySem.W.mg_none_of X G z_bool, PySem.W.mg_none_of X G z_dict, PySem.W.mg_none_of X G z_enumerate, PySem.W.mg_none_of X G z_int, PySem.W.mg_none_of X G z_isinstance, PySem.W.mg_none_of X G z_len, PySem.W.mg_none_of X G z_list, PySem.W.mg_none_of X G z_max, PySem.W.mg_none_of X G z_min, PySem.W.mg_none_of X G z_range, PySem.W.mg_none_of X G z_repr, PySem.W.mg_none_of X G z_reversed, PySem.W.mg_none_of X G z_set, PySem.W.mg_none_of X G z_sorted, PySem.W.mg_none_of X G z_str, PySem.W.mg_none_of X G z_sum, PySem.W.mg_none_of X G z_tuple, PySem.W.mg_none_of X G z_zip⟩
  have F0 := fun_mk (st := s_trimmed) l0 c0 k0
  have F1 := fun_mk (st := s_plus) l1 c1 k1
  have F2 := fun_mk (st := s_scaled) l2 c2 k2
  have F3 := fun_mk (st := s_raised) l3 c3 k3
  have F4 := fun_mk (st := s_common_divisor) l4 c4 k4
  have F5 := fun_mk (st := s_primitive) l5 c5 k5
  have F6 := fun_mk (st := s_remainder) l6 c6 k6
  have F7 := fun_mk (st := s_gcd) l7 c7 k7
  have F8 := fun_mk (st := s_divided) l8 c8 k8
  have F9 := fun_mk (st := s_often) l9 c9 k9
  have F10 := fun_mk (st := s_squarefree) l10 c10 k10
  have F11 := fun_mk (st := s_x_law_draws) l11 c11 k11
  have F12 := fun_mk (st := s_x_law_mix) l12 c12 k12
  have F13 := fun_mk (st := s_x_law_trimmed) l13 c13 k13
  have F14 := fun_mk (st := s_x_law_times) l14 c14 k14
  have F15 := fun_mk (st := s_x_law_divisor) l15 c15 k15
  have F16 := fun_mk (st := s_x_law_lowest) l16 c16 k16
  have F17 := fun_mk (st := s_x_law_common) l17 c17 k17
  have F18 := fun_mk (st := s_x_law_divided) l18 c18 k18
  have F19 := fun_mk (st := s_x_law_is_list) l19 c19 k19
  have F20 := fun_mk (st := s_x_law_menu) l20 c20 k20
  have F21 := fun_mk (st := s_x_law_built) l21 c21 k21
  have F22 := fun_mk (st := s_x_law_powers) l22 c22 k22
  have F23 := fun_mk (st := s_x_law_number) l23 c23 k23
  have F24 := fun_mk (st := s_x_law_any) l24 c24 k24
  have F25 := fun_mk (st := s_x_law_powers_told) l25 c25 k25
  have F26 := fun_mk (st := s_x_law_others_told) l26 c26 k26
  have F27 := fun_mk (st := s_law) l27 c27 k27
  refine ⟨PySem.W.fnOf "law" "law" (defArgs s_law) (defBody s_law) (defScope s_law) .none kV27 dc27 pm27 an27 cd27 ct27, fun s v => .of_eq rfl, fun base _ _ hns => ?_⟩
  have Z : Bz PySem.Challenge.pw_unsaidsizes_k78_factors_of_polynomials base := ⟨hns, htree⟩
  have C_trimmed := c_trimmed  B Z (w := w) F0 (PySem.W.mg_of X G a0) (gd := gTrimmed) (fun ds r h => g1_len ds r h) w_trimmed
  have C_plus := c_plus C_trimmed B Z (w := w) F1 (PySem.W.mg_of X G a1) (gd := gPlus) (fun ds r h => g2_len ds r h) w_plus
  have C_scaled := c_scaled  B Z (w := w) F2 (PySem.W.mg_of X G a2) (gd := gScaled) (fun ds r h => g2_len ds r h) w_scaled
  have C_raised := c_raised  B Z (w := w) F3 (PySem.W.mg_of X G a3) (gd := gRaised) (fun ds r h => g2_len ds r h) w_raised
  have C_common_divisor := c_common_divisor  B Z (w := w) F4 (PySem.W.mg_of X G a4) (gd := gCd) (fun ds r h => g2_len ds r h) w_common_divisor
  have C_primitive := c_primitive C_common_divisor B Z (w := w) F5 (PySem.W.mg_of X G a5) (gd := gPrim) (fun ds r h => g1_len ds r h) w_primitive
  have C_remainder := c_remainder C_primitive C_raised C_scaled C_plus B Z (w := w) F6 (PySem.W.mg_of X G a6) (gd := gRem) (fun ds r h => g2_len ds r h) w_remainder
  have C_gcd := c_gcd C_primitive C_remainder B Z (w := w) F7 (PySem.W.mg_of X G a7) (gd := gGcd) (fun ds r h => g2_len ds r h) w_gcd
  have C_divided := c_divided  B Z (w := w) F8 (PySem.W.mg_of X G a8) (gd := gDiv) (fun ds r h => g2_len ds r h) w_divided
  have C_often := c_often C_divided B Z (w := w) F9 (PySem.W.mg_of X G a9) (gd := gOften) (fun ds r h => g2_len ds r h) w_often
  have C_squarefree := c_squarefree C_primitive C_divided C_gcd B Z (w := w) F10 (PySem.W.mg_of X G a10) (gd := gSq) (fun ds r h => g1_len ds r h) w_sq
  have C_x_law_draws := c_x_law_draws  B Z (w := w) F11 (PySem.W.mg_of X G a11) (gd := gDraws) (fun ds r h => g1_len ds r h) w_draws
  have C_x_law_mix := c_x_law_mix  B Z (w := w) F12 (PySem.W.mg_of X G a12) (gd := gMix) (fun ds r h => g3_len ds r h) w_mix
  have C_x_law_trimmed := c_x_law_trimmed  B Z (w := w) F13 (PySem.W.mg_of X G a13) (gd := gLTrim) (fun ds r h => g1_len ds r h) w_ltrimmed
  have C_x_law_times := c_x_law_times C_x_law_trimmed B Z (w := w) F14 (PySem.W.mg_of X G a14) (gd := gTimes) (fun ds r h => g2_len ds r h) w_times
  have C_x_law_divisor := c_x_law_divisor  B Z (w := w) F15 (PySem.W.mg_of X G a15) (gd := gDivisor) (fun ds r h => g1_len ds r h) w_divisor
  have C_x_law_lowest := c_x_law_lowest C_x_law_divisor B Z (w := w) F16 (PySem.W.mg_of X G a16) (gd := gLowest) (fun ds r h => g1_len ds r h) w_lowest
  have C_x_law_common := c_x_law_common C_x_law_lowest C_x_law_trimmed B Z (w := w) F17 (PySem.W.mg_of X G a17) (gd := gCommon) (fun ds r h => g2_len ds r h) w_common
  have C_x_law_divided := c_x_law_divided C_x_law_trimmed B Z (w := w) F18 (PySem.W.mg_of X G a18) (gd := gDiv) (fun ds r h => g2_len ds r h) w_ldivided
  have C_x_law_is_list := c_x_law_is_list  B Z (w := w) F19 (PySem.W.mg_of X G a19) (gd := gIsList) (fun ds r h => g1_len ds r h) w_is_list
  have C_x_law_menu := c_x_law_menu  B Z (w := w) F20 (PySem.W.mg_of X G a20) (gd := gMenu) menu_len w_menu
  have C_x_law_built := c_x_law_built C_x_law_times C_x_law_menu B Z (w := w) F21 (PySem.W.mg_of X G a21) (gd := gBuilt) (fun ds r h => g2_len ds r h) w_built
  have C_x_law_powers := c_x_law_powers C_x_law_mix B Z (w := w) F22 (PySem.W.mg_of X G a22) (gd := gPowers) (fun ds r h => g3_len ds r h) w_powers
  have C_x_law_number := c_x_law_number C_x_law_mix B Z (w := w) F23 (PySem.W.mg_of X G a23) (gd := gNumber) (fun ds r h => g2_len ds r h) w_number
  have C_x_law_any := c_x_law_any C_x_law_mix C_x_law_trimmed B Z (w := w) F24 (PySem.W.mg_of X G a24) (gd := gAny) (fun ds r h => g2_len ds r h) w_any
  have C_x_law_powers_told := c_x_law_powers_told C_x_law_powers C_x_law_built C_x_law_number C_squarefree C_gcd C_primitive C_x_law_is_list C_divided C_often C_x_law_menu B Z (w := w) F25 (PySem.W.mg_of X G a25) (gd := gPT) (fun ds r h => g1_len ds r h) w_powers_told
  have C_x_law_others_told := c_x_law_others_told C_x_law_any C_x_law_times C_gcd C_x_law_is_list C_x_law_lowest C_divided C_x_law_common C_x_law_mix C_x_law_divided B Z (w := w) F26 (PySem.W.mg_of X G a26) (gd := gOthers) (fun ds r h => g1_len ds r h) w_others
  exact fn_okG2 F27 sc_law (fun ds r h => g1_len ds r h) (fun cdv A outer s H E hr hG => j_law C_x_law_draws C_primitive C_gcd C_divided C_x_law_powers_told C_x_law_others_told B Z hr hG) w_law
end K78
open PySem PySem.W PyProof.Rows
set_option maxHeartbeats 0 in
theorem PySem.Challenge.cw_unsaidsizes_k78_factors_of_polynomials_holds : PySem.Challenge.rw_unsaidsizes_k78_factors_of_polynomials.Holds := by
  w_on; o_law; k_head; (case hw => w_witness2)
  k_fill
  refine PD.walk_ofG (l := PySem.Challenge.rw_unsaidsizes_k78_factors_of_polynomials) (k := 47) (x := "script") (gd := K78.gLaw) rfl rfl ⟨rfl, by decide, by decide⟩ (fun w h Y => PySem.W.kIn_of Y) ?F (by decide +kernel) (fun ns hl hb => K78.gLaw_ hl)
  case F =>
    intro w mg fa h KX G hmg
    refine' K78.all_mk KX G hmg rfl ?a0 ?l0 ?c0 ?k0 ?a1 ?l1 ?c1 ?k1 ?a2 ?l2 ?c2 ?k2 ?a3 ?l3 ?c3 ?k3 ?a4 ?l4 ?c4 ?k4 ?a5 ?l5 ?c5 ?k5 ?a6 ?l6 ?c6 ?k6 ?a7 ?l7 ?c7 ?k7 ?a8 ?l8 ?c8 ?k8 ?a9 ?l9 ?c9 ?k9 ?a10 ?l10 ?c10 ?k10 ?a11 ?l11 ?c11 ?k11 ?a12 ?l12 ?c12 ?k12 ?a13 ?l13 ?c13 ?k13 ?a14 ?l14 ?c14 ?k14 ?a15 ?l15 ?c15 ?k15 ?a16 ?l16 ?c16 ?k16 ?a17 ?l17 ?c17 ?k17 ?a18 ?l18 ?c18 ?k18 ?a19 ?l19 ?c19 ?k19 ?a20 ?l20 ?c20 ?k20 ?a21 ?l21 ?c21 ?k21 ?a22 ?l22 ?c22 ?k22 ?a23 ?l23 ?c23 ?k23 ?a24 ?l24 ?c24 ?k24 ?a25 ?l25 ?c25 ?k25 ?a26 ?l26 ?c26 ?k26 ?a27 ?l27 ?c27 ?k27 ?z_abs ?z_all ?z_any ?z_bool ?z_dict ?z_enumerate ?z_int ?z_isinstance ?z_len ?z_list ?z_max ?z_min ?z_range ?z_repr ?z_reversed ?z_set ?z_sorted ?z_str ?z_sum ?z_tuple ?z_zip
    (case a0 => k_is)
    (case l0 => k_is)
    (case c0 => k_is)
    (case k0 => k_is)
    (case a1 => k_is)
    (case l1 => k_is)
    (case c1 => k_is)
    (case k1 => k_is)
    (case a2 => k_is)
    (case l2 => k_is)
    (case c2 => k_is)
    (case k2 => k_is)
    (case a3 => k_is)
    (case l3 => k_is)
    (case c3 => k_is)
    (case k3 => k_is)
    (case a4 => k_is)
    (case l4 => k_is)
    (case c4 => k_is)
    (case k4 => k_is)
    (case a5 => k_is)
    (case l5 => k_is)
    (case c5 => k_is)
    (case k5 => k_is)
    (case a6 => k_is)
    (case l6 => k_is)
    (case c6 => k_is)
    (case k6 => k_is)
    (case a7 => k_is)
    (case l7 => k_is)
    (case c7 => k_is)
    (case k7 => k_is)
    (case a8 => k_is)
    (case l8 => k_is)
    (case c8 => k_is)
    (case k8 => k_is)
    (case a9 => k_is)
    (case l9 => k_is)
    (case c9 => k_is)
    (case k9 => k_is)
    (case a10 => k_is)
    (case l10 => k_is)
    (case c10 => k_is)
    (case k10 => k_is)
    (case a11 => k_is)
    (case l11 => k_is)
    (case c11 => k_is)
    (case k11 => k_is)
    (case a12 => k_is)
    (case l12 => k_is)
    (case c12 => k_is)
    (case k12 => k_is)
    (case a13 => k_is)
    (case l13 => k_is)
    (case c13 => k_is)
    (case k13 => k_is)
    (case a14 => k_is)
    (case l14 => k_is)
    (case c14 => k_is)
    (case k14 => k_is)
    (case a15 => k_is)
    (case l15 => k_is)
    (case c15 => k_is)
    (case k15 => k_is)
    (case a16 => k_is)
    (case l16 => k_is)
    (case c16 => k_is)
    (case k16 => k_is)
    (case a17 => k_is)
    (case l17 => k_is)
    (case c17 => k_is)
    (case k17 => k_is)
    (case a18 => k_is)
    (case l18 => k_is)
    (case c18 => k_is)
    (case k18 => k_is)
    (case a19 => k_is)
    (case l19 => k_is)
    (case c19 => k_is)
    (case k19 => k_is)
    (case a20 => k_is)
    (case l20 => k_is)
    (case c20 => k_is)
    (case k20 => k_is)
    (case a21 => k_is)
    (case l21 => k_is)
    (case c21 => k_is)
    (case k21 => k_is)
    (case a22 => k_is)
    (case l22 => k_is)
    (case c22 => k_is)
    (case k22 => k_is)
    (case a23 => k_is)
    (case l23 => k_is)
    (case c23 => k_is)
    (case k23 => k_is)
    (case a24 => k_is)
    (case l24 => k_is)
    (case c24 => k_is)
    (case k24 => k_is)
    (case a25 => k_is)
    (case l25 => k_is)
    (case c25 => k_is)
    (case k25 => k_is)
    (case a26 => k_is)
    (case l26 => k_is)
    (case c26 => k_is)
    (case k26 => k_is)
    (case a27 => k_is)
    (case l27 => k_is)
    (case c27 => k_is)
    (case k27 => k_is)
    (case z_abs => k_is)
    (case z_all => k_is)
    (case z_any => k_is)
    (case z_bool => k_is)
    (case z_dict => k_is)
    (case z_enumerate => k_is)
    (case z_int => k_is)
    (case z_isinstance => k_is)
    (case z_len => k_is)
    (case z_list => k_is)
    (case z_max => k_is)
    (case z_min => k_is)
    (case z_range => k_is)
    (case z_repr => k_is)
    (case z_reversed => k_is)
    (case z_set => k_is)
    (case z_sorted => k_is)
    (case z_str => k_is)
    (case z_sum => k_is)
    (case z_tuple => k_is)
    (case z_zip => k_is)
