import PyProof.Rows.All
import Wide.All
import OpenK.AllK
import Wide.FinOn
import HandS.ForMost
import HandS.ForExc
import HandS.TryMany
import HandS.IsInst
import HandS.Deep
import HandS.Wide
import HandS.Zip
import HandS.TupAny
import HandS.Conv
import HandS.SortInts
import HandS.SortRule
import HandS.Flow
import HandS.Style
import HandS.RevTup
import HandS.TupSets
import HandS.ExcIs
import PySem.Challenge.RW_touchtrue_k00_whole_numbers
set_option Elab.async false
set_option linter.all false
set_option maxRecDepth 100000
set_option maxHeartbeats 4000000
/-! TdCore: a layer of plain data over the hand layer: a def's body as a function of data. -/
namespace TD
open PySem PySem.Spec PyProof.Rows L2

abbrev D := PyData
/-- what an expression comes to: data, an error by its class's name, or nothing that is known -/
inductive R (α : Type) where
  | ok (a : α) | ex (x : Str) | no
def R.bind {α β : Type} : R α → (α → R β) → R β
  | .ok a, k => k a
  | .ex x, _ => .ex x
  | .no, _ => .no
@[simp] theorem R.ok_bind {α β : Type} (a : α) (k : α → R β) : (R.ok a).bind k = k a := rfl
@[simp] theorem R.ex_bind {α β : Type} (x : Str) (k : α → R β) : (R.ex x : R α).bind k = .ex x := rfl
@[simp] theorem R.no_bind {α β : Type} (k : α → R β) : (R.no : R α).bind k = .no := rfl
instance : Monad R where
  pure := R.ok
  bind := R.bind
@[simp] theorem R.pure_eq {α : Type} (a : α) : (pure a : R α) = .ok a := rfl
@[simp] theorem R.bind_eq {α β : Type} (a : R α) (k : α → R β) : (a >>= k) = a.bind k := rfl
@[simp] theorem R.map_eq {α β : Type} (a : R α) (k : α → β) : (k <$> a) = a.bind fun x => .ok (k x) := rfl

/-- the script, as a value that is read only at its own places -/
def scrD (ns : List Int) : D := .dict [(.none, .list (ns.map .int))]

mutual
inductive Rp (K : PySem.W.Frag) (H : Hp) : V → D → Prop
  | non : Rp K H .non .none
  | bl (b : Bool) : Rp K H (.bl b) (.bool b)
  | int (i : Int) : Rp K H (.int i) (.int i)
  | str (x : Str) : Rp K H (.str x) (.str x)
  | lst {a : Addr} {xs : List V} {ds : List D} : H a = some (.lst xs) → RpAll K H xs ds → Rp K H (.ref a) (.list ds)
  | tup {a : Addr} {xs : List V} {ds : List D} : SqT K H a xs → RpAll K H xs ds → Rp K H (.ref a) (.tuple ds)
  | scr {a : Addr} {ns : List Int} : SqL K H a (ns.map V.int) → Rp K H (.ref a) (scrD ns)
inductive RpAll (K : PySem.W.Frag) (H : Hp) : List V → List D → Prop
  | nil : RpAll K H [] []
  | cons {v : V} {vs : List V} {d : D} {ds : List D} : Rp K H v d → RpAll K H vs ds → RpAll K H (v :: vs) (d :: ds)
end

section
variable {K : PySem.W.Frag} {H H' : Hp}
theorem Same.seqT {a : Addr} {xs : List V} (e : Same H H') (h : SqT K H a xs) : SqT K H' a xs := by
  rcases h with (h | ⟨o, h⟩) | h
  · exact .inl (.inl (e _ _ h))
  · exact .inl (.inr ⟨o, e _ _ h⟩)
  · exact .inr h
mutual
theorem Rp.mono (e : Same H H') : ∀ (d : D) (v : V), Rp K H v d → Rp K H' v d
  | .none, _, h => by cases h; exact .non
  | .bool _, _, h => by cases h; exact .bl _
  | .int _, _, h => by cases h; exact .int _
  | .str _, _, h => by cases h; exact .str _
  | .list ds, _, h => by
    cases h with
    | lst h1 h2 => exact .lst (e _ _ h1) (RpAll.mono e ds _ h2)
  | .tuple ds, _, h => by
    cases h with
    | tup h1 h2 => exact .tup (TD.Same.seqT e h1) (RpAll.mono e ds _ h2)
  | .dict kvs, v, h => by
    generalize hd : PyData.dict kvs = d at h
    cases h with
    | scr h1 => exact .scr (e.seq h1)
    | _ => cases hd
theorem RpAll.mono (e : Same H H') : ∀ (ds : List D) (vs : List V), RpAll K H vs ds → RpAll K H' vs ds
  | [], _, h => by cases h; exact .nil
  | d :: ds, _, h => by
    cases h with
    | cons h1 h2 => exact .cons (Rp.mono e d _ h1) (RpAll.mono e ds _ h2)
end
theorem Rp.up {v : V} {d : D} (h : Rp K H v d) (e : Same H H') : Rp K H' v d := Rp.mono e d v h
theorem RpAll.up {vs : List V} {ds : List D} (h : RpAll K H vs ds) (e : Same H H') : RpAll K H' vs ds := RpAll.mono e ds vs h
theorem RpAll.length : ∀ {vs : List V} {ds : List D}, RpAll K H vs ds → vs.length = ds.length
  | _, _, .nil => rfl
  | _, _, .cons _ t => by rw [List.length_cons, List.length_cons, RpAll.length t]
theorem RpAll.get : ∀ {vs : List V} {ds : List D} {i : Nat} {d : D}, RpAll K H vs ds → ds[i]? = some d → ∃ v, vs[i]? = some v ∧ Rp K H v d
  | _, _, _, _, .nil, e => by simp at e
  | _, _, 0, _, .cons r _, e => by simp at e; subst e; exact ⟨_, rfl, r⟩
  | _, _, i + 1, d, .cons _ t, e => by
    obtain ⟨v, h1, h2⟩ := RpAll.get (i := i) (d := d) t (by simpa using e)
    exact ⟨v, by simpa using h1, h2⟩
theorem RpAll.getV : ∀ {vs : List V} {ds : List D} {i : Nat} {v : V}, RpAll K H vs ds → vs[i]? = some v → ∃ d, ds[i]? = some d ∧ Rp K H v d
  | _, _, _, _, .nil, e => by simp at e
  | _, _, 0, _, .cons r _, e => by simp at e; subst e; exact ⟨_, rfl, r⟩
  | _, _, i + 1, v, .cons _ t, e => by
    obtain ⟨d, h1, h2⟩ := RpAll.getV (i := i) (v := v) t (by simpa using e)
    exact ⟨d, by simpa using h1, h2⟩
theorem RpAll.append : ∀ {xs ys : List V} {ds es : List D}, RpAll K H xs ds → RpAll K H ys es → RpAll K H (xs ++ ys) (ds ++ es)
  | _, _, _, _, .nil, s => s
  | _, _, _, _, .cons r t, s => .cons r (RpAll.append t s)
theorem RpAll.one {v : V} {d : D} (r : Rp K H v d) : RpAll K H [v] [d] := .cons r .nil
theorem RpAll.take : ∀ {xs : List V} {ds : List D} (n : Nat), RpAll K H xs ds → RpAll K H (xs.take n) (ds.take n)
  | _, _, 0, _ => .nil
  | _, _, _ + 1, .nil => .nil
  | _, _, n + 1, .cons r t => .cons r (RpAll.take n t)
theorem RpAll.drop : ∀ {xs : List V} {ds : List D} (n : Nat), RpAll K H xs ds → RpAll K H (xs.drop n) (ds.drop n)
  | _, _, 0, r => r
  | _, _, _ + 1, .nil => .nil
  | _, _, n + 1, .cons _ t => RpAll.drop n t
theorem RpAll.dropLast {xs : List V} {ds : List D} (r : RpAll K H xs ds) : RpAll K H xs.dropLast ds.dropLast := by
  rw [List.dropLast_eq_take, List.dropLast_eq_take, r.length]
  exact r.take _
theorem RpAll.reverse : ∀ {xs : List V} {ds : List D}, RpAll K H xs ds → RpAll K H xs.reverse ds.reverse
  | _, _, .nil => .nil
  | _, _, .cons r t => by rw [List.reverse_cons, List.reverse_cons]; exact (RpAll.reverse t).append (.one r)
theorem RpAll.eraseIdx : ∀ {xs : List V} {ds : List D} (i : Nat), RpAll K H xs ds → RpAll K H (xs.eraseIdx i) (ds.eraseIdx i)
  | _, _, _, .nil => .nil
  | _, _, 0, .cons _ t => t
  | _, _, i + 1, .cons r t => .cons r (RpAll.eraseIdx i t)
theorem RpAll.set {v : V} {d : D} (r : Rp K H v d) : ∀ {xs : List V} {ds : List D} (i : Nat), RpAll K H xs ds → RpAll K H (xs.set i v) (ds.set i d)
  | _, _, _, .nil => .nil
  | _, _, 0, .cons _ t => .cons r t
  | _, _, i + 1, .cons q t => .cons q (RpAll.set r i t)
theorem RpAll.ints : ∀ (ns : List Int), RpAll K H (ns.map V.int) (ns.map PyData.int)
  | [] => .nil
  | n :: ns => .cons (.int n) (RpAll.ints ns)
theorem RpAll.of_ints : ∀ {vs : List V} {ns : List Int}, RpAll K H vs (ns.map PyData.int) → vs = ns.map V.int
  | _, [], h => by cases h; rfl
  | _, n :: ns, h => by
    cases h with
    | cons h1 h2 => cases h1; rw [RpAll.of_ints h2]; rfl
theorem RpAll.of_bools : ∀ {vs : List V} {ns : List Bool}, RpAll K H vs (ns.map PyData.bool) → vs = ns.map V.bl
  | _, [], h => by cases h; rfl
  | _, n :: ns, h => by
    cases h with
    | cons h1 h2 => cases h1; rw [RpAll.of_bools h2]; rfl
mutual
/-- data without the script is the hand layer's data -/
theorem Rp.dp : ∀ (d : D) (v : V), Rp K H v d → d.canLay0 = true → Dp K H v d
  | .none, _, h, _ => by cases h; exact .non
  | .bool _, _, h, _ => by cases h; exact .bl _
  | .int _, _, h, _ => by cases h; exact .int _
  | .str _, _, h, _ => by cases h; exact .str _
  | .list ds, _, h, c => by
    cases h with
    | lst h1 h2 => exact .lst (SqL.of h1) (RpAll.dp ds _ h2 (by simpa [PyData.canLay0] using c))
  | .tuple ds, _, h, c => by
    cases h with
    | tup h1 h2 => exact .tup h1 (RpAll.dp ds _ h2 (by simpa [PyData.canLay0] using c))
  | .dict kvs, v, h, c => by simp [PyData.canLay0] at c
theorem RpAll.dp : ∀ (ds : List D) (vs : List V), RpAll K H vs ds → PyData.canLayAll0 ds = true → DpAll K H vs ds
  | [], _, h, _ => by cases h; exact .nil
  | d :: ds, _, h, c => by
    have c' : d.canLay0 = true ∧ PyData.canLayAll0 ds = true := by simpa [PyData.canLayAll0] using c
    cases h with
    | cons h1 h2 => exact .cons (Rp.dp d _ h1 c'.1) (RpAll.dp ds _ h2 c'.2)
end
end

/-! ### heaps that grow -/
/-- G: what is settled (never changes again); H: all that is tracked -/
structure Ext (G0 H0 G H : Hp) : Prop where
  sub : Same G H
  hh : Same H0 H
  gg : Same G0 G
  fr : ∀ p, G0 p = none → G p ≠ none → H0 p = none
theorem Ext.refl {G H : Hp} (h : Same G H) : Ext G H G H := ⟨h, .refl _, .refl _, fun _ a b => absurd a b⟩
theorem Ext.trans {G0 H0 G1 H1 G2 H2 : Hp} (a : Ext G0 H0 G1 H1) (b : Ext G1 H1 G2 H2) : Ext G0 H0 G2 H2 := by
  refine ⟨b.sub, a.hh.trans b.hh, a.gg.trans b.gg, fun p h1 h2 => ?_⟩
  by_cases h : G1 p = none
  · exact a.hh.free (b.fr p h h2)
  · exact a.fr p h1 h
theorem same_upd {H : Hp} {p : Addr} {o : HO} (h : H p = none) : Same H (upd H p o) := fun b x e => by
  rw [upd_ne (ne_of_none e h)]
  exact e
theorem same_upd2 {G H : Hp} {p : Addr} {o : HO} (h : Same G H) : Same (upd G p o) (upd H p o) := fun b x e => by
  by_cases hb : b = p
  · subst hb; rw [upd_same] at e ⊢; exact e
  · rw [upd_ne hb] at e ⊢; exact h b x e
theorem Ext.new {G H : Hp} {p : Addr} {o : HO} (h : Same G H) (hp : H p = none) : Ext G H (upd G p o) (upd H p o) := by
  refine ⟨same_upd2 h, same_upd hp, same_upd (h.free hp), fun q h1 h2 => ?_⟩
  by_cases hq : q = p
  · subst hq; exact hp
  · rw [upd_ne hq] at h2; exact absurd h1 h2

/-! ### expressions -/
/-- a name's place: settled data, or a list of the body's own that nothing else holds -/
inductive Sl where
  | pu (d : D) | ow (ds : List D)
abbrev EnvS := List (Option Sl)
structure EnvE (K : PySem.W.Frag) (G H : Hp) (σ : L2.St) (ρ : EnvS) : Prop where
  pu : ∀ (i : Nat) (d : D), ρ[i]? = some (some (.pu d)) → ∃ v, σ[i]? = some (some v) ∧ Rp K G v d
  ow : ∀ (i : Nat) (ds : List D), ρ[i]? = some (some (.ow ds)) → ∃ p vs, σ[i]? = some (some (.ref p)) ∧ H p = some (.lst vs) ∧ G p = none ∧ RpAll K G vs ds
  len : σ.length = ρ.length
theorem EnvE.up {K : PySem.W.Frag} {G H G' H' : Hp} {σ : L2.St} {ρ : EnvS} (h : EnvE K G H σ ρ) (e : Ext G H G' H') : EnvE K G' H' σ ρ := by
  refine ⟨fun i d q => ?_, fun i ds q => ?_, h.len⟩
  · obtain ⟨v, h1, h2⟩ := h.pu i d q
    exact ⟨v, h1, h2.up e.gg⟩
  · obtain ⟨p, vs, h1, h2, h3, h4⟩ := h.ow i ds q
    refine ⟨p, vs, h1, e.hh _ _ h2, ?_, h4.up e.gg⟩
    by_cases hp : G' p = none
    · exact hp
    · rw [e.fr p h3 hp] at h2; cases h2

/-- what is wanted behind: of the data's values, or of an error -/
def Post {α υ : Type} (rp : Hp → υ → α → Prop) (Wx : Str → Hp → Prop) (G H : Hp) (r : R α) (Q : υ → Hp → Prop) : Prop :=
  match r with
  | .ok a => ∀ v G' H', Ext G H G' H' → rp G' v a → Q v H'
  | .ex x => ∀ G' H', Ext G H G' H' → Wx x H'
  | .no => False
theorem Post.later {α υ : Type} {rp : Hp → υ → α → Prop} {Wx : Str → Hp → Prop} {G H G1 H1 : Hp} {r : R α} {Q : υ → Hp → Prop} (h : Post rp Wx G H r Q) (e : Ext G H G1 H1) : Post rp Wx G1 H1 r Q := by
  cases r with
  | ok a => exact fun v G' H' e' => h v G' H' (e.trans e')
  | ex x => exact fun G' H' e' => h G' H' (e.trans e')
  | no => exact h
theorem Post.mono {α υ : Type} {rp : Hp → υ → α → Prop} {Wx : Str → Hp → Prop} {G H : Hp} {r : R α} {Q Q' : υ → Hp → Prop} (h : Post rp Wx G H r Q) (q : ∀ v H', Q v H' → Q' v H') : Post rp Wx G H r Q' := by
  cases r with
  | ok a => exact fun v G' H' e' r => q _ _ (h v G' H' e' r)
  | ex x => exact h
  | no => exact h

abbrev rpE (K : PySem.W.Frag) : Hp → V → D → Prop := fun G v d => Rp K G v d
abbrev rpB : Hp → Bool → Bool → Prop := fun _ a b => a = b
abbrev rpL (K : PySem.W.Frag) : Hp → List V → List D → Prop := fun G v d => RpAll K G v d
abbrev Wxo (mg : Str → Option Value) (W : WX) (σ : L2.St) : Str → Hp → Prop := fun x H => ∀ c, mg x = some c → W c none σ H

def tD {α υ : Type} (K : PySem.W.Frag) (mg : Str → Option Value) (W : WX) (rp : Hp → υ → α → Prop) (f : EnvS → R α) : L2.St → Hp → (υ → Hp → Prop) → Prop := fun σ H Q =>
  ∃ G ρ, Same G H ∧ EnvE K G H σ ρ ∧ Post rp (Wxo mg W σ) G H (f ρ) Q
abbrev PD (X : Cx) (W : WX) (e : Expr) (f : EnvS → R D) : Prop := PE X e (tD X.K X.mg W (rpE X.K) f)
abbrev PTD (X : Cx) (W : WX) (e : Expr) (f : EnvS → R Bool) : Prop := PT X e (tD X.K X.mg W rpB f)
abbrev PWD (X : Cx) (W : WX) (e : Expr) (f : EnvS → R Bool) : Prop := PW X e (tD X.K X.mg W rpB f)
abbrev PAD (X : Cx) (W : WX) (es : List Expr) (f : EnvS → R (List D)) : Prop := PA X es (tD X.K X.mg W (rpL X.K) f)

theorem _root_.L2.PE.wk {X : Cx} {e : Expr} {t t' : TE} (h : PE X e t) (w : ∀ σ H Q, t' σ H Q → t σ H Q) : PE X e t' := ⟨fun pins s σ H Q I q => h.run pins s σ H Q I (w σ H Q q)⟩
theorem _root_.L2.PT.wk {X : Cx} {e : Expr} {t t' : TT} (h : PT X e t) (w : ∀ σ H Q, t' σ H Q → t σ H Q) : PT X e t' := ⟨fun pins s σ H Q I q => h.run pins s σ H Q I (w σ H Q q)⟩
theorem _root_.L2.PW.wk {X : Cx} {e : Expr} {t t' : TT} (h : PW X e t) (w : ∀ σ H Q, t' σ H Q → t σ H Q) : PW X e t' := ⟨fun wh pins s σ H Q I q => h.run wh pins s σ H Q I (w σ H Q q)⟩
theorem _root_.L2.PA.wk {X : Cx} {es : List Expr} {t t' : TA} (h : PA X es t) (w : ∀ σ H Q, t' σ H Q → t σ H Q) : PA X es t' := ⟨fun pos pins s σ H Q I q => h.run pos pins s σ H Q I (w σ H Q q)⟩
theorem _root_.L2.PS.wk {X : Cx} {e : Stmt} {t t' : TS} (h : PS X e t) (w : ∀ D σ H, t' D σ H → t D σ H) : PS X e t' := ⟨fun pins s σ H D I q => h.run pins s σ H D I (w D σ H q)⟩
theorem _root_.L2.PSs.wk {X : Cx} {e : List Stmt} {t t' : TS} (h : PSs X e t) (w : ∀ D σ H, t' D σ H → t D σ H) : PSs X e t' := ⟨fun pins s σ H D I q => h.run pins s σ H D I (w D σ H q)⟩

section
variable {K : PySem.W.Frag} {mg : Str → Option Value} {W : WX} {σ : L2.St} {ρ : EnvS} {G H : Hp}
/-- the first part of a sequence -/
theorem Post.seq {α β υ ω : Type} {rp : Hp → υ → α → Prop} {rq : Hp → ω → β → Prop} {f : EnvS → R α} {k : α → R β} {Q : ω → Hp → Prop} {Q1 : υ → Hp → Prop}
    (h : Post rq (Wxo mg W σ) G H ((f ρ).bind k) Q) (hs : Same G H) (he : EnvE K G H σ ρ)
    (q : ∀ a v G1 H1, f ρ = .ok a → Ext G H G1 H1 → rp G1 v a → EnvE K G1 H1 σ ρ → Post rq (Wxo mg W σ) G1 H1 (k a) Q → Q1 v H1) : tD K mg W rp f σ H Q1 := by
  refine ⟨G, ρ, hs, he, ?_⟩
  cases e : f ρ with
  | ok a =>
    rw [e] at h
    intro v G1 H1 e1 r1
    exact q a v G1 H1 e e1 r1 (he.up e1) (Post.later h e1)
  | ex x =>
    rw [e] at h
    exact h
  | no =>
    rw [e] at h
    exact h.elim
theorem Post.done {α υ : Type} {rp : Hp → υ → α → Prop} {Wx : Str → Hp → Prop} {a : α} {v : υ} {Q : υ → Hp → Prop} (h : Post rp Wx G H (.ok a) Q) (hs : Same G H) (r : rp G v a) : Q v H := h v G H (.refl hs) r
end

/-! ### names and constants -/
def varD (i : Nat) : EnvS → R D := fun ρ => match ρ[i]? with
  | some (some (.pu d)) => .ok d
  | _ => .no
def cD (d : D) : EnvS → R D := fun _ => .ok d
section
variable {X : Cx} {W : WX}
theorem d_var (i : Nat) {x : Str} {pos : Pos} (hN : X.N[i]? = some x := by rfl) (hv : Vis X.env.scope x := by first | exact Or.inl rfl | exact Or.inr (Or.inl rfl) | exact Or.inr (Or.inr rfl)) (hd : (x == ("__debug__" : Str)) = false := by decide)
    (hcd : (x == ("__classdict__" : Str)) = false := by decide) : PD X W (.Name x pos) (varD i) := (pe_var hN hv hd hcd).wk fun σ H Q ⟨G, ρ, hs, he, q⟩ => by
  unfold varD at q
  cases e : ρ[i]? with
  | none => rw [e] at q; exact q.elim
  | some o =>
    cases o with
    | none => rw [e] at q; exact q.elim
    | some d =>
      cases d with
      | ow ds => rw [e] at q; exact q.elim
      | pu d =>
        rw [e] at q
        obtain ⟨v, h1, h2⟩ := he.pu i d e
        exact ⟨v, h1, q.done hs h2⟩
theorem d_int {i j pos} : PD X W (.Constant (.int i) j pos) (cD (.int i)) := pe_int.wk fun σ H Q ⟨G, ρ, hs, he, q⟩ => Post.done q hs (.int i)
theorem d_bl {b j pos} : PD X W (.Constant (.bool b) j pos) (cD (.bool b)) := pe_bl.wk fun σ H Q ⟨G, ρ, hs, he, q⟩ => Post.done q hs (.bl b)
theorem d_non {j pos} : PD X W (.Constant .none j pos) (cD .none) := pe_non.wk fun σ H Q ⟨G, ρ, hs, he, q⟩ => Post.done q hs .non
theorem d_str {x j pos} : PD X W (.Constant (.str x) j pos) (cD (.str x)) := pe_str.wk fun σ H Q ⟨G, ρ, hs, he, q⟩ => Post.done q hs (.str x)
/-- a constant of the module: v is its value -/
theorem d_glob {x : Str} {v : V} {u : Value} {d : D} {pos : Pos} (hg : Gl X x) (hm : X.mg x = some u) (r : RelV v u) (hr : ∀ G, Rp X.K G v d) (hd : (x == ("__debug__" : Str)) = false := by decide) : PD X W (.Name x pos) (cD d) :=
  (pe_glob hg hm r hd).wk fun σ H Q ⟨G, ρ, hs, he, q⟩ => Post.done q hs (hr G)

/-! ### operators -/
def bin2 (k : D → D → R D) (f g : EnvS → R D) : EnvS → R D := fun ρ => (f ρ).bind fun a => (g ρ).bind fun b => k a b
def un1 (k : D → R D) (f : EnvS → R D) : EnvS → R D := fun ρ => (f ρ).bind k
/-- an operator's reading serves a function of data -/
def OpD (X : Cx) (r : R2) (k : D → D → R D) : Prop := ∀ (a b : D) (x y : V) (G H : Hp) (Wx : Str → Hp → Prop) (Q : VK), Same G H → Rp X.K G x a → Rp X.K G y b → Post (rpE X.K) Wx G H (k a b) Q → r x y H Q
theorem tOpD {r : R2} {k : D → D → R D} {f g : EnvS → R D} (hr : OpD X r k) {σ : L2.St} {H : Hp} {Q : VK} (h : tD X.K X.mg W (rpE X.K) (bin2 k f g) σ H Q) : tOp r (tD X.K X.mg W (rpE X.K) f) (tD X.K X.mg W (rpE X.K) g) σ H Q := by
  obtain ⟨G, ρ, hs, he, q⟩ := h
  refine Post.seq q hs he fun a v G1 H1 _ e1 r1 he1 q1 => ?_
  refine Post.seq q1 e1.sub he1 fun b u G2 H2 _ e2 r2 he2 q2 => ?_
  exact hr a b v u G2 H2 _ Q e2.sub (Rp.up r1 e2.gg) r2 q2
theorem d_op {op : Operator} {a b : Expr} {pos : Pos} {r : R2} {k : D → D → R D} {f g : EnvS → R D} (ho : OpR X (binaryOp op) r) (hr : OpD X r k) (ha : PD X W a f) (hb : PD X W b g) : PD X W (.BinOp a op b pos) (bin2 k f g) :=
  (pe_op ho ha hb).wk fun _ _ _ h => tOpD hr h
theorem d_cmp {op : CmpOp} {a b : Expr} {pos : Pos} {r : R2} {k : D → D → R D} {f g : EnvS → R D} (ho : OpR X (compareOp op) r) (hr : OpD X r k) (ha : PD X W a f) (hb : PD X W b g) (hm : behindInMarks op b = false) : PD X W (.Compare a [op] [b] pos) (bin2 k f g) :=
  (pe_cmpR ho ha hb hm).wk fun _ _ _ h => tOpD hr h
/-- data that is a truth value -/
def asB (r : R D) : R Bool := r.bind fun d => match d with
  | .bool b => .ok b
  | _ => .no
abbrev asF (f : EnvS → R D) : EnvS → R Bool := fun ρ => asB (f ρ)
theorem tTestD {f : EnvS → R D} {t : TE} {σ : L2.St} {H : Hp} {Q : Bool → Hp → Prop} (h : tD X.K X.mg W rpB (fun ρ => asB (f ρ)) σ H Q) (ht : ∀ Q', tD X.K X.mg W (rpE X.K) f σ H Q' → t σ H Q') : tTest t σ H Q := by
  obtain ⟨G, ρ, hs, he, q⟩ := h
  refine ht _ (Post.seq q hs he fun a v G1 H1 _ e1 r1 he1 q1 => ?_)
  cases a with
  | bool b =>
    cases r1
    exact ⟨b, rfl, Post.done (rp := rpB) (v := b) q1 e1.sub rfl⟩
  | _ => exact q1.elim
theorem dt_cmp {op : CmpOp} {a b : Expr} {pos : Pos} {r : R2} {k : D → D → R D} {f g : EnvS → R D} (ho : OpR X (compareOp op) r) (hr : OpD X r k) (ha : PD X W a f) (hb : PD X W b g) (hm : behindInMarks op b = false) : PTD X W (.Compare a [op] [b] pos) (fun ρ => asB (bin2 k f g ρ)) :=
  (pt_cmpR ho ha hb hm).wk fun _ _ _ h => tTestD h fun _ h' => tOpD hr h'
theorem dt_val {e : Expr} {f : EnvS → R D} (h : PD X W e f) (he : ∀ whole, isTrue e X.env whole = (do let v ← whole; standAt e.pos; holding [v] (truthy v)) := by intro _; rfl) : PTD X W e (fun ρ => asB (f ρ)) :=
  (pt_val h he).wk fun _ _ _ q => tTestD q fun _ q' => q'
def bTest (k : Bool → R Bool) (f : EnvS → R Bool) : EnvS → R Bool := fun ρ => (f ρ).bind k
def notB (f : EnvS → R Bool) : EnvS → R Bool := fun ρ => (f ρ).bind fun b => .ok (!b)
def andB (f g : EnvS → R Bool) : EnvS → R Bool := fun ρ => (f ρ).bind fun b => if b = true then g ρ else .ok false
def orB (f g : EnvS → R Bool) : EnvS → R Bool := fun ρ => (f ρ).bind fun b => if b = true then .ok true else g ρ
theorem dt_not {a : Expr} {pos : Pos} {f : EnvS → R Bool} (h : PTD X W a f) : PTD X W (.UnaryOp .Not a pos) (notB f) := (pt_not h).wk fun σ H Q ⟨G, ρ, hs, he, q⟩ =>
  Post.seq q hs he fun a v G1 H1 _ e1 r1 he1 q1 => Post.done (rp := rpB) (v := !v) q1 e1.sub (by subst r1; rfl)
theorem dw_and1 {a : Expr} {pos : Pos} {f : EnvS → R Bool} (h : PTD X W a f) : PWD X W (.BoolOp .And [a] pos) f := pw_and1 h
theorem dw_or1 {a : Expr} {pos : Pos} {f : EnvS → R Bool} (h : PTD X W a f) : PWD X W (.BoolOp .Or [a] pos) f := pw_or1 h
theorem dw_and {a b : Expr} {rest : List Expr} {pos : Pos} {f g : EnvS → R Bool} (ha : PTD X W a f) (hb : PWD X W (.BoolOp .And (b :: rest) pos) g) : PWD X W (.BoolOp .And (a :: b :: rest) pos) (andB f g) := (pw_and ha hb).wk fun σ H Q ⟨G, ρ, hs, he, q⟩ =>
  Post.seq q hs he fun a v G1 H1 _ e1 r1 he1 q1 => by
    cases r1
    cases a with
    | true => exact ⟨G1, ρ, e1.sub, he1, q1⟩
    | false => exact Post.done (rp := rpB) (v := false) q1 e1.sub rfl
theorem dw_or {a b : Expr} {rest : List Expr} {pos : Pos} {f g : EnvS → R Bool} (ha : PTD X W a f) (hb : PWD X W (.BoolOp .Or (b :: rest) pos) g) : PWD X W (.BoolOp .Or (a :: b :: rest) pos) (orB f g) := (pw_or ha hb).wk fun σ H Q ⟨G, ρ, hs, he, q⟩ =>
  Post.seq q hs he fun a v G1 H1 _ e1 r1 he1 q1 => by
    cases r1
    cases a with
    | true => exact Post.done (rp := rpB) (v := true) q1 e1.sub rfl
    | false => exact ⟨G1, ρ, e1.sub, he1, q1⟩
theorem dt_w {e : Expr} {f : EnvS → R Bool} (h : PWD X W e f) : PTD X W e f := h.pt
/-- and, or, not as values: all but the last a truth value -/
def andV (f g : EnvS → R D) : EnvS → R D := fun ρ => (asB (f ρ)).bind fun b => if b = true then g ρ else .ok (.bool false)
def orV (f g : EnvS → R D) : EnvS → R D := fun ρ => (asB (f ρ)).bind fun b => if b = true then .ok (.bool true) else g ρ
def notV (f : EnvS → R D) : EnvS → R D := fun ρ => (asB (f ρ)).bind fun b => .ok (.bool !b)
theorem asB_bind {β : Type} (r : R D) (k : Bool → R β) : (asB r).bind k = r.bind fun d => (match d with | .bool b => R.ok b | _ => R.no).bind k := by
  cases r <;> rfl
theorem d_one {op} {a : Expr} {pos : Pos} {f : EnvS → R D} (h : PD X W a f) : PD X W (.BoolOp op [a] pos) f := pe_one h
theorem d_and {a b : Expr} {rest : List Expr} {pos : Pos} {f g : EnvS → R D} (ha : PD X W a f) (hb : PD X W (.BoolOp .And (b :: rest) pos) g) : PD X W (.BoolOp .And (a :: b :: rest) pos) (andV f g) := (pe_and ha hb).wk fun σ H Q ⟨G, ρ, hs, he, q⟩ => by
  unfold andV at q
  rw [asB_bind] at q
  refine Post.seq q hs he fun a v G1 H1 _ e1 r1 he1 q1 => ?_
  cases a with
  | bool b =>
    cases r1
    refine ⟨b, rfl, ?_⟩
    cases b with
    | true => exact ⟨G1, ρ, e1.sub, he1, q1⟩
    | false => exact Post.done (rp := rpE X.K) q1 e1.sub (.bl false)
  | _ => exact q1.elim
theorem d_or {a b : Expr} {rest : List Expr} {pos : Pos} {f g : EnvS → R D} (ha : PD X W a f) (hb : PD X W (.BoolOp .Or (b :: rest) pos) g) : PD X W (.BoolOp .Or (a :: b :: rest) pos) (orV f g) := (pe_or ha hb).wk fun σ H Q ⟨G, ρ, hs, he, q⟩ => by
  unfold orV at q
  rw [asB_bind] at q
  refine Post.seq q hs he fun a v G1 H1 _ e1 r1 he1 q1 => ?_
  cases a with
  | bool b =>
    cases r1
    refine ⟨b, rfl, ?_⟩
    cases b with
    | true => exact Post.done (rp := rpE X.K) q1 e1.sub (.bl true)
    | false => exact ⟨G1, ρ, e1.sub, he1, q1⟩
  | _ => exact q1.elim
theorem d_not {a : Expr} {pos : Pos} {f : EnvS → R D} (h : PD X W a f) : PD X W (.UnaryOp .Not a pos) (notV f) := (pe_not h).wk fun σ H Q ⟨G, ρ, hs, he, q⟩ => by
  unfold notV at q
  rw [asB_bind] at q
  refine Post.seq q hs he fun a v G1 H1 _ e1 r1 he1 q1 => ?_
  cases a with
  | bool b =>
    cases r1
    exact ⟨b, rfl, Post.done (rp := rpE X.K) q1 e1.sub (.bl _)⟩
  | _ => exact q1.elim
def ifD (c : EnvS → R Bool) (f g : EnvS → R D) : EnvS → R D := fun ρ => (c ρ).bind fun b => if b = true then f ρ else g ρ
theorem d_if {c a b : Expr} {pos : Pos} {t : EnvS → R Bool} {f g : EnvS → R D} (hc : PTD X W c t) (ha : PD X W a f) (hb : PD X W b g) : PD X W (.IfExp c a b pos) (ifD t f g) := (pe_ifExp hc ha hb).wk fun σ H Q ⟨G, ρ, hs, he, q⟩ =>
  Post.seq q hs he fun a v G1 H1 _ e1 r1 he1 q1 => by
    cases r1
    cases a with
    | true => exact ⟨G1, ρ, e1.sub, he1, q1⟩
    | false => exact ⟨G1, ρ, e1.sub, he1, q1⟩
/-- a unary operator -/
def UnD (X : Cx) (r : V → Hp → VK → Prop) (k : D → R D) : Prop := ∀ (a : D) (x : V) (G H : Hp) (Wx : Str → Hp → Prop) (Q : VK), Same G H → Rp X.K G x a → Post (rpE X.K) Wx G H (k a) Q → r x H Q
theorem d_un {op : UnaryOp} {a : Expr} {pos : Pos} {r : V → Hp → VK → Prop} {k : D → R D} {f : EnvS → R D} (ho : UnR X (unaryOp op) r) (hr : UnD X r k) (ha : PD X W a f) : PD X W (.UnaryOp op a pos) (un1 k f) := (pe_un ho ha).wk fun σ H Q ⟨G, ρ, hs, he, q⟩ =>
  Post.seq q hs he fun a v G1 H1 _ e1 r1 he1 q1 => hr a v G1 H1 _ Q e1.sub r1 q1
/-- a chain of two comparisons -/
def chD (k k' : D → D → R D) (f g h : EnvS → R D) : EnvS → R D := fun ρ => (f ρ).bind fun a => (g ρ).bind fun b => (k a b).bind fun c => match c with
  | .bool true => (h ρ).bind fun d => k' b d
  | .bool false => .ok (.bool false)
  | _ => .no
end
end TD

/-! TdOps: operators, subscripts, displays, calls of built-ins, over data. -/
namespace TD
open PySem PySem.Spec PyProof.Rows L2
def lineOk (n : Nat) : Bool := decide (n ≤ 16777216)
theorem lineOk_le {n : Nat} (h : lineOk n = true) : n ≤ sizeLine := by rw [sizeLine_eq]; exact of_decide_eq_true h
def mulOk (a b : Int) : Bool := decide (a.natAbs.log2 + b.natAbs.log2 < 1000000)
def divOk (b : Int) : Bool := decide (b ≠ 0) && decide (b.natAbs.log2 < 9000)
def intsOf : List D → Option (List Int)
  | [] => some []
  | .int i :: r => (intsOf r).map (i :: ·)
  | _ :: _ => none
theorem intsOf_map : ∀ ns : List Int, intsOf (ns.map PyData.int) = some ns
  | [] => rfl
  | n :: r => by show (intsOf (r.map PyData.int)).map (n :: ·) = _; rw [intsOf_map r]; rfl
theorem intsOf_some : ∀ {ds : List D} {ns : List Int}, intsOf ds = some ns → ds = ns.map PyData.int
  | [], ns, h => by cases h; rfl
  | .int i :: r, ns, h => by
    unfold intsOf at h
    cases e : intsOf r with
    | none => rw [e] at h; cases h
    | some ms => rw [e] at h; cases h; rw [intsOf_some e]; rfl
  | .none :: r, ns, h => by cases h
  | .bool _ :: r, ns, h => by cases h
  | .str _ :: r, ns, h => by cases h
  | .list _ :: r, ns, h => by cases h
  | .tuple _ :: r, ns, h => by cases h
  | .dict _ :: r, ns, h => by cases h
def boolsOf : List D → Option (List Bool)
  | [] => some []
  | .bool i :: r => (boolsOf r).map (i :: ·)
  | _ :: _ => none
theorem boolsOf_map : ∀ ns : List Bool, boolsOf (ns.map PyData.bool) = some ns
  | [] => rfl
  | n :: r => by show (boolsOf (r.map PyData.bool)).map (n :: ·) = _; rw [boolsOf_map r]; rfl
theorem boolsOf_some : ∀ {ds : List D} {ns : List Bool}, boolsOf ds = some ns → ds = ns.map PyData.bool
  | [], ns, h => by cases h; rfl
  | .bool i :: r, ns, h => by
    unfold boolsOf at h
    cases e : boolsOf r with
    | none => rw [e] at h; cases h
    | some ms => rw [e] at h; cases h; rw [boolsOf_some e]; rfl
  | .none :: r, ns, h => by cases h
  | .int _ :: r, ns, h => by cases h
  | .str _ :: r, ns, h => by cases h
  | .list _ :: r, ns, h => by cases h
  | .tuple _ :: r, ns, h => by cases h
  | .dict _ :: r, ns, h => by cases h

/-! ### the functions -/
def addD : D → D → R D
  | .int a, .int b => .ok (.int (a + b))
  | .str a, .str b => if lineOk (a.length + b.length) then .ok (.str (a ++ b)) else .no
  | .list a, .list b => if lineOk (a.length + b.length) then .ok (.list (a ++ b)) else .no
  | .tuple a, .tuple b => if lineOk (a.length + b.length) then .ok (.tuple (a ++ b)) else .no
  | _, _ => .no
def subD : D → D → R D
  | .int a, .int b => .ok (.int (a - b))
  | _, _ => .no
def mulD : D → D → R D
  | .int a, .int b => if mulOk a b then .ok (.int (a * b)) else .no
  | _, _ => .no
def fdivD : D → D → R D
  | .int a, .int b => if divOk b then .ok (.int (a.fdiv b)) else .no
  | _, _ => .no
def modD : D → D → R D
  | .int a, .int b => if decide (b ≠ 0) then .ok (.int (a.fmod b)) else .no
  | _, _ => .no
def powD : D → D → R D
  | .int a, .int b => if decide (0 ≤ b ∧ b ≤ 1000000 ∧ a.natAbs < 18446744073709551616) then .ok (.int (a ^ b.toNat)) else .no
  | _, _ => .no
def negD : D → R D
  | .int a => .ok (.int (-a))
  | _ => .no
def okD (d : D) : Bool := SeqAt.shaped d
def eqD (a b : D) : R D := if okD a && okD b then .ok (.bool (PyData.eqv a b)) else .no
def neD (a b : D) : R D := if okD a && okD b then .ok (.bool (!PyData.eqv a b)) else .no
def ltD : D → D → R D
  | .int a, .int b => .ok (.bool (decide (a < b)))
  | .str a, .str b => .ok (.bool (decide (a.cps.toList < b.cps.toList)))
  | .tuple a, .tuple b => match intsOf a, intsOf b with
    | some x, some y => .ok (.bool (HT.lexLt x y))
    | _, _ => .no
  | _, _ => .no
def leD : D → D → R D
  | .int a, .int b => .ok (.bool (decide (a ≤ b)))
  | _, _ => .no
def gtD : D → D → R D
  | .int a, .int b => .ok (.bool (decide (b < a)))
  | _, _ => .no
def geD : D → D → R D
  | .int a, .int b => .ok (.bool (decide (b ≤ a)))
  | _, _ => .no
def isND : D → D → R D
  | .none, .none => .ok (.bool true)
  | _, .none => .ok (.bool false)
  | _, _ => .no
def notND : D → D → R D
  | .none, .none => .ok (.bool false)
  | _, .none => .ok (.bool true)
  | _, _ => .no
def flatD : D → Bool
  | .none => true | .bool _ => true | .int _ => true | .str _ => true | _ => false
def inD (a : D) : D → R D
  | .list ds => if okD a && okD (.list ds) then .ok (.bool (ds.any fun z => PyData.eqv z a)) else .no
  | .str t => match a with
    | .str s => .ok (.bool (!(Builtin.Str.occurrences t s 0 t.length 1).isEmpty))
    | _ => .no
  | _ => .no
def notInD (a : D) : D → R D
  | .list ds => if okD a && okD (.list ds) then .ok (.bool (!ds.any fun z => PyData.eqv z a)) else .no
  | .str t => match a with
    | .str s => .ok (.bool (!(!(Builtin.Str.occurrences t s 0 t.length 1).isEmpty)))
    | _ => .no
  | _ => .no
/-- an item, from the end below 0 -/
def atD {α : Type} (ds : List α) (i : Int) : Option α := if 0 ≤ i then ds[i.toNat]? else if -(ds.length : Int) ≤ i then ds[(i + ds.length).toNat]? else none
def optR {α : Type} : Option α → R α
  | some a => .ok a
  | none => .no
def ixD : D → D → R D
  | .list ds, .int i => optR (atD ds i)
  | .tuple ds, .int i => optR (atD ds i)
  | .str z, .int i => if lineOk z.length then (optR (atD z.cps.toList i)).bind fun c => .ok (.str ⟨#[c]⟩) else .no
  | _, _ => .no
theorem atD_at {α : Type} {ds : List α} {i : Int} {d : α} (h : atD ds i = some d) : ∃ j, ixN ds.length i = some j ∧ ds[j]? = some d := by
  unfold atD at h
  unfold ixN
  split at h
  · rename_i h0
    rw [if_pos h0]
    have hl := List.getElem?_eq_some_iff.mp h
    obtain ⟨hj, _⟩ := hl
    rw [if_pos (by omega)]
    exact ⟨_, rfl, h⟩
  · rename_i h0
    rw [if_neg h0]
    split at h
    · rename_i h1
      rw [if_pos h1]
      exact ⟨_, rfl, h⟩
    · cases h
def cutD {α : Type} (xs : List α) (lo hi : Option Int) : List α := (xs.drop (HT.sIx xs.length 0 lo)).take (HT.sIx xs.length xs.length hi - HT.sIx xs.length 0 lo)

/-! ### ints, comparisons -/
section
variable {X : Cx}
theorem OpD.or {r r' : R2} {k : D → D → R D} (h : ∀ (a b : D) (x y : V) (G H : Hp) (Wx : Str → Hp → Prop) (Q : VK), Same G H → Rp X.K G x a → Rp X.K G y b → Post (rpE X.K) Wx G H (k a b) Q → r x y H Q ∨ r' x y H Q) : OpD X (fun x y H Q => r x y H Q ∨ r' x y H Q) k := h
theorem Rp.seqT {K : PySem.W.Frag} {G H : Hp} {v : V} {ds : List D} (h : Rp K G v (.tuple ds)) (hs : Same G H) : ∃ a xs, v = .ref a ∧ SqT K H a xs ∧ SqT K G a xs ∧ RpAll K G xs ds := by
  cases h with
  | tup h1 h2 => exact ⟨_, _, rfl, TD.Same.seqT hs h1, h1, h2⟩
theorem Rp.seqL {K : PySem.W.Frag} {G H : Hp} {v : V} {ds : List D} (h : Rp K G v (.list ds)) (hs : Same G H) : ∃ a xs, v = .ref a ∧ H a = some (.lst xs) ∧ G a = some (.lst xs) ∧ RpAll K G xs ds := by
  cases h with
  | lst h1 h2 => exact ⟨_, _, rfl, hs _ _ h1, h1, h2⟩
def rAddAll (K : PySem.W.Frag) : R2 := fun x y H Q => (rI0 fun i j => .int (i + j)) x y H Q ∨ ((fun x y H Q => ∃ i j, x = .str i ∧ y = .str j ∧ i.length + j.length ≤ sizeLine ∧ Q (.str (i ++ j)) H) x y H Q ∨ (rCat x y H Q ∨ rCatA K x y H Q))
theorem or_add : OpR X (binaryOp .Add) (rAddAll X.K) := op_add.or (op_add_str.or (op_cat.or op_catA))
theorem od_add : OpD X (rAddAll X.K) addD := by
  intro a b x y G H Wx Q hs ra rb q
  unfold addD at q
  split at q
  · cases ra; cases rb
    exact .inl ⟨_, _, rfl, rfl, q.done hs (.int _)⟩
  · cases ra; cases rb
    split at q
    · rename_i h
      exact .inr (.inl ⟨_, _, rfl, rfl, lineOk_le h, q.done hs (.str _)⟩)
    · exact q.elim
  · split at q
    · rename_i h
      obtain ⟨l, xs, rfl, h1, g1, p1⟩ := ra.seqL hs
      obtain ⟨l2, ys, rfl, h2, g2, p2⟩ := rb.seqL hs
      refine .inr (.inr (.inl ⟨l, l2, xs, ys, rfl, rfl, h1, h2, by rw [p1.length, p2.length]; exact lineOk_le h, fun p hp => ?_⟩))
      have e := Ext.new (o := .lst (xs ++ ys)) hs hp
      exact q _ _ _ e (.lst upd_same ((p1.append p2).up e.gg))
    · exact q.elim
  · split at q
    · rename_i h
      obtain ⟨l, xs, rfl, h1, g1, p1⟩ := ra.seqT hs
      obtain ⟨l2, ys, rfl, h2, g2, p2⟩ := rb.seqT hs
      refine .inr (.inr (.inr ⟨l, l2, xs, ys, rfl, rfl, h1, h2, by rw [p1.length, p2.length]; exact lineOk_le h, fun e => ?_, fun _ e => ?_, fun _ _ p hp => ?_⟩))
      · subst e
        cases p1
        exact q.done hs rb
      · subst e
        cases p2
        rw [List.append_nil] at q
        exact q.done hs ra
      · have e := Ext.new (o := .tup (xs ++ ys)) hs hp
        exact q _ _ _ e (.tup (SqT.of upd_same) ((p1.append p2).up e.gg))
    · exact q.elim
  · exact q.elim
theorem od_int {r : R2} {k : D → D → R D} {C : Int → Int → Prop} {g : Int → Int → V} {gd : Int → Int → D} (hr : r = rI C g) (hg : ∀ i j K G, Rp K G (g i j) (gd i j))
    (hk : ∀ a b, (∃ i j, a = .int i ∧ b = .int j ∧ (k a b = .no ∨ (C i j ∧ k a b = .ok (gd i j)))) ∨ k a b = .no) : OpD X r k := by
  intro a b x y G H Wx Q hs ra rb q
  subst hr
  rcases hk a b with ⟨i, j, rfl, rfl, h | ⟨hc, h⟩⟩ | h
  · rw [h] at q; exact q.elim
  · cases ra; cases rb
    rw [h] at q
    exact ⟨i, j, rfl, rfl, hc, q.done hs (hg i j _ _)⟩
  · rw [h] at q; exact q.elim
theorem od_int0 {r : R2} {k : D → D → R D} {g : Int → Int → V} {gd : Int → Int → D} (hr : r = rI0 g) (hg : ∀ i j K G, Rp K G (g i j) (gd i j))
    (hk : ∀ a b, (∃ i j, a = .int i ∧ b = .int j ∧ k a b = .ok (gd i j)) ∨ k a b = .no) : OpD X r k := by
  intro a b x y G H Wx Q hs ra rb q
  subst hr
  rcases hk a b with ⟨i, j, rfl, rfl, h⟩ | h
  · cases ra; cases rb
    rw [h] at q
    exact ⟨i, j, rfl, rfl, q.done hs (hg i j _ _)⟩
  · rw [h] at q; exact q.elim
theorem od_sub : OpD X (rI0 fun i j => .int (i - j)) subD := od_int0 (gd := fun i j => .int (i - j)) rfl (fun i j _ _ => .int _) (by intro a b; cases a <;> first | exact .inr rfl | (cases b <;> first | exact .inr rfl | exact .inl ⟨_, _, rfl, rfl, rfl⟩))
theorem od_le : OpD X (rI0 fun i j => .bl (decide (i ≤ j))) leD := od_int0 (gd := fun i j => .bool (decide (i ≤ j))) rfl (fun i j _ _ => .bl _) (by intro a b; cases a <;> first | exact .inr rfl | (cases b <;> first | exact .inr rfl | exact .inl ⟨_, _, rfl, rfl, rfl⟩))
theorem od_gt : OpD X (rI0 fun i j => .bl (decide (j < i))) gtD := od_int0 (gd := fun i j => .bool (decide (j < i))) rfl (fun i j _ _ => .bl _) (by intro a b; cases a <;> first | exact .inr rfl | (cases b <;> first | exact .inr rfl | exact .inl ⟨_, _, rfl, rfl, rfl⟩))
theorem od_ge : OpD X (rI0 fun i j => .bl (decide (j ≤ i))) geD := od_int0 (gd := fun i j => .bool (decide (j ≤ i))) rfl (fun i j _ _ => .bl _) (by intro a b; cases a <;> first | exact .inr rfl | (cases b <;> first | exact .inr rfl | exact .inl ⟨_, _, rfl, rfl, rfl⟩))
theorem od_mul : OpD X (rI CMulW fun i j => .int (i * j)) mulD := od_int (gd := fun i j => .int (i * j)) rfl (fun i j _ _ => .int _) (by
  intro a b
  cases a <;> first | exact .inr rfl | (cases b <;> first | exact .inr rfl | (rename_i i j; by_cases h : mulOk i j = true; exact .inl ⟨_, _, rfl, rfl, .inr ⟨(by unfold mulOk at h; have h' := of_decide_eq_true h; exact h'), by simp only [mulD, h, if_true]⟩⟩; exact .inr (by simp only [mulD, h]; rfl))))
def CDivZ (_ j : Int) : Prop := j ≠ 0 ∧ j.natAbs.log2 < 9000
theorem op_fdivZ : OpR X (binaryOp .FloorDiv) (rI CDivZ fun i j => .int (i.fdiv j)) := opI fun i j _ _ _ _ _ hc q => floordiv_int hc.1 q (.inl (PyProof.noPylong_of_log2 hc.2))
theorem od_fdiv : OpD X (rI CDivZ fun i j => .int (i.fdiv j)) fdivD := od_int (gd := fun i j => .int (i.fdiv j)) rfl (fun i j _ _ => .int _) (by
  intro a b
  cases a <;> first | exact .inr rfl | (cases b <;> first | exact .inr rfl | (rename_i i j; by_cases h : divOk j = true; exact .inl ⟨_, _, rfl, rfl, .inr ⟨(by unfold divOk at h; rw [Bool.and_eq_true] at h; exact ⟨of_decide_eq_true h.1, of_decide_eq_true h.2⟩), by simp only [fdivD, h, if_true]⟩⟩; exact .inr (by simp only [fdivD, h]; rfl))))
theorem od_mod : OpD X (rI (fun _ j => j ≠ 0) fun i j => .int (i.fmod j)) modD := od_int (gd := fun i j => .int (i.fmod j)) rfl (fun i j _ _ => .int _) (by
  intro a b
  cases a <;> first | exact .inr rfl | (cases b <;> first | exact .inr rfl | (rename_i i j; by_cases h : decide (j ≠ 0) = true; exact .inl ⟨_, _, rfl, rfl, .inr ⟨of_decide_eq_true h, by simp only [modD, h, if_true]⟩⟩; exact .inr (by simp only [modD, h]; rfl))))
theorem od_pow : OpD X (rI CPow fun i j => .int (i ^ j.toNat)) powD := od_int (gd := fun i j => .int (i ^ j.toNat)) rfl (fun i j _ _ => .int _) (by
  intro a b
  cases a <;> first | exact .inr rfl | (cases b <;> first | exact .inr rfl | (rename_i i j; by_cases h : decide (0 ≤ j ∧ j ≤ 1000000 ∧ i.natAbs < 18446744073709551616) = true; exact .inl ⟨_, _, rfl, rfl, .inr ⟨(by have := of_decide_eq_true h; exact ⟨this.1, this.2.1, by have := this.2.2; omega⟩), by simp only [powD, h, if_true]⟩⟩; exact .inr (by simp only [powD, h]; rfl))))
theorem ud_neg : UnD X (rU fun i => .int (-i)) negD := by
  intro a x G H Wx Q hs ra q
  unfold negD at q
  split at q
  · cases ra; exact ⟨_, rfl, q.done hs (.int _)⟩
  · exact q.elim
theorem okD_can {d : D} (h : okD d = true) : d.canLay0 = true := by
  unfold okD SeqAt.shaped at h
  rw [Bool.and_eq_true] at h
  exact h.1
theorem od_eq : OpD X (rEqD X.K) eqD := by
  intro a b x y G H Wx Q hs ra rb q
  unfold eqD at q
  split at q
  · rename_i h
    rw [Bool.and_eq_true] at h
    exact ⟨a, b, Rp.dp _ _ (ra.up hs) (okD_can h.1), Rp.dp _ _ (rb.up hs) (okD_can h.2), h.1, h.2, q.done hs (.bl _)⟩
  · exact q.elim
theorem od_ne : OpD X (rNeD X.K) neD := by
  intro a b x y G H Wx Q hs ra rb q
  unfold neD at q
  split at q
  · rename_i h
    rw [Bool.and_eq_true] at h
    exact ⟨a, b, Rp.dp _ _ (ra.up hs) (okD_can h.1), Rp.dp _ _ (rb.up hs) (okD_can h.2), h.1, h.2, q.done hs (.bl _)⟩
  · exact q.elim
def rLtAll (K : PySem.W.Frag) : R2 := fun x y H Q => (rI0 fun i j => .bl (decide (i < j))) x y H Q ∨ ((fun x y H Q => ∃ i j, x = .str i ∧ y = .str j ∧ Q (.bl (decide (i.cps.toList < j.cps.toList))) H) x y H Q ∨ rLtT K x y H Q)
theorem or_lt (hu : X.A.units < cLine) : OpR X (compareOp .Lt) (rLtAll X.K) := op_lt.or (op_lt_str.or (op_ltT hu))
theorem od_lt : OpD X (rLtAll X.K) ltD := by
  intro a b x y G H Wx Q hs ra rb q
  unfold ltD at q
  split at q
  · cases ra; cases rb
    exact .inl ⟨_, _, rfl, rfl, q.done hs (.bl _)⟩
  · cases ra; cases rb
    exact .inr (.inl ⟨_, _, rfl, rfl, q.done hs (.bl _)⟩)
  · split at q
    · rename_i e1 e2
      obtain ⟨l, xs, rfl, h1, g1, p1⟩ := ra.seqT hs
      obtain ⟨l2, ys, rfl, h2, g2, p2⟩ := rb.seqT hs
      rw [intsOf_some e1] at p1
      rw [intsOf_some e2] at p2
      rw [p1.of_ints] at h1
      rw [p2.of_ints] at h2
      exact .inr (.inr ⟨_, _, _, _, rfl, rfl, h1, h2, q.done hs (.bl _)⟩)
    · exact q.elim
  · exact q.elim
theorem od_isN : OpD X (fun x y H Q => y = .non ∧ Q (.bl (decide (x = .non))) H) isND := by
  intro a b x y G H Wx Q hs ra rb q
  unfold isND at q
  split at q
  · cases ra; cases rb; exact ⟨rfl, q.done hs (.bl _)⟩
  · rename_i hn
    cases rb
    refine ⟨rfl, ?_⟩
    rw [decide_eq_false (fun e => by subst e; cases ra; exact hn rfl)]
    exact q.done hs (.bl _)
  · exact q.elim
theorem od_notN : OpD X (fun x y H Q => y = .non ∧ Q (.bl (!decide (x = .non))) H) notND := by
  intro a b x y G H Wx Q hs ra rb q
  unfold notND at q
  split at q
  · cases ra; cases rb; exact ⟨rfl, q.done hs (.bl _)⟩
  · rename_i hn
    cases rb
    refine ⟨rfl, ?_⟩
    rw [decide_eq_false (fun e => by subst e; cases ra; exact hn rfl)]
    exact q.done hs (.bl _)
  · exact q.elim
def rInAll (K : PySem.W.Frag) : R2 := fun x y H Q => rInD K x y H Q ∨ (fun x y H Q => ∃ i j, x = .str i ∧ y = .str j ∧ Q (.bl (!(Builtin.Str.occurrences j i 0 j.length 1).isEmpty)) H) x y H Q
def rNotInAll (K : PySem.W.Frag) : R2 := fun x y H Q => rNotInD K x y H Q ∨ (fun x y H Q => ∃ i j, x = .str i ∧ y = .str j ∧ Q (.bl (!(!(Builtin.Str.occurrences j i 0 j.length 1).isEmpty))) H) x y H Q
theorem or_in (hu : X.A.units + 65 < cLine) : OpR X (compareOp .In) (rInAll X.K) := (op_inD hu).or op_in_str
theorem or_notIn (hu : X.A.units + 65 < cLine) : OpR X (compareOp .NotIn) (rNotInAll X.K) := (op_notInD hu).or op_notin_str
theorem od_in : OpD X (rInAll X.K) inD := by
  intro a b x y G H Wx Q hs ra rb q
  unfold inD at q
  split at q
  · split at q
    · rename_i h
      rw [Bool.and_eq_true] at h
      exact .inl ⟨_, _, Rp.dp _ _ (ra.up hs) (okD_can h.1), Rp.dp _ _ (rb.up hs) (okD_can h.2), h.1, h.2, q.done hs (.bl _)⟩
    · exact q.elim
  · split at q
    · cases ra; cases rb
      exact .inr ⟨_, _, rfl, rfl, q.done hs (.bl _)⟩
    · exact q.elim
  · exact q.elim
theorem od_notIn : OpD X (rNotInAll X.K) notInD := by
  intro a b x y G H Wx Q hs ra rb q
  unfold notInD at q
  split at q
  · split at q
    · rename_i h
      rw [Bool.and_eq_true] at h
      exact .inl ⟨_, _, Rp.dp _ _ (ra.up hs) (okD_can h.1), Rp.dp _ _ (rb.up hs) (okD_can h.2), h.1, h.2, q.done hs (.bl _)⟩
    · exact q.elim
  · split at q
    · cases ra; cases rb
      exact .inr ⟨_, _, rfl, rfl, q.done hs (.bl _)⟩
    · exact q.elim
  · exact q.elim
/-! ### items -/
theorem od_ix : OpD X (rIx X.K) ixD := by
  intro a b x y G H Wx Q hs ra rb q
  unfold ixD at q
  split at q
  · rename_i ds i
    cases rb
    obtain ⟨l, xs, rfl, h1, g1, p1⟩ := ra.seqL hs
    cases e : atD ds i with
    | none => rw [e] at q; exact q.elim
    | some d =>
      rw [e] at q
      obtain ⟨j, hj, hd⟩ := atD_at e
      obtain ⟨v, hv, rv⟩ := p1.get hd
      refine .inl ⟨l, xs, i, v, rfl, rfl, SqL.of h1, ?_, q.done hs rv⟩
      unfold atI
      rw [p1.length, hj]
      exact hv
  · rename_i ds i
    cases rb
    obtain ⟨l, xs, rfl, h1, g1, p1⟩ := ra.seqT hs
    cases e : atD ds i with
    | none => rw [e] at q; exact q.elim
    | some d =>
      rw [e] at q
      obtain ⟨j, hj, hd⟩ := atD_at e
      obtain ⟨v, hv, rv⟩ := p1.get hd
      refine .inr (.inl ⟨l, xs, i, v, rfl, rfl, h1, ?_, q.done hs rv⟩)
      unfold atI
      rw [p1.length, hj]
      exact hv
  · rename_i z i
    split at q
    · rename_i hl
      cases ra; cases rb
      cases e : atD z.cps.toList i with
      | none => rw [e] at q; exact q.elim
      | some c =>
        rw [e] at q
        obtain ⟨j, hj, hd⟩ := atD_at e
        refine .inr (.inr ⟨z, i, c, rfl, rfl, lineOk_le hl, ?_, q.done hs (.str _)⟩)
        unfold atI
        rw [hj]
        exact hd
    · exact q.elim
  · exact q.elim
variable {W : WX}
theorem d_ix {a b : Expr} {pos : Pos} {f g : EnvS → R D} (ha : PD X W a f) (hb : PD X W b g) (hp : PlainIx b := by intro _ _; rfl) : PD X W (.Subscript a b pos) (bin2 ixD f g) := (pe_ix ix_seq ha hb hp).wk fun _ _ _ h => tOpD od_ix h
end
end TD

/-! TdSeq: argument lists, displays, lists that are new or one's own, slices, calls of built-ins and of defs. -/
namespace TD
open PySem PySem.Spec PyProof.Rows L2
/-- what a reading of a result must bear -/
structure Fin {β : Type} (Wx : Str → Hp → Prop) (P : R β → Hp → Hp → Prop) : Prop where
  later : ∀ r G H G1 H1, P r G H → Ext G H G1 H1 → P r G1 H1
  ex : ∀ x G H, P (.ex x) G H → ∀ G' H', Ext G H G' H' → Wx x H'
  no : ∀ G H, P .no G H → False
theorem Post.fin {α υ : Type} {rp : Hp → υ → α → Prop} {Wx : Str → Hp → Prop} {Q : υ → Hp → Prop} : Fin Wx (fun r G H => Post rp Wx G H r Q) := ⟨fun _ _ _ _ _ h e => Post.later h e, fun _ _ _ h => h, fun _ _ h => h⟩
/-- a new list, not yet settled -/
def PostN (K : PySem.W.Frag) (Wx : Str → Hp → Prop) (G H : Hp) (r : R (List D)) (Q : VK) : Prop :=
  match r with
  | .ok ds => ∀ q xs G' H', Ext G H G' H' → H q = none → G' q = none → H' q = some (.lst xs) → RpAll K G' xs ds → Q (.ref q) H'
  | .ex x => ∀ G' H', Ext G H G' H' → Wx x H'
  | .no => False
/-- a list that may be read -/
def PostL (K : PySem.W.Frag) (Wx : Str → Hp → Prop) (G H : Hp) (r : R (List D)) (Q : VK) : Prop :=
  match r with
  | .ok ds => ∀ q xs G' H', Ext G H G' H' → H' q = some (.lst xs) → RpAll K G' xs ds → Q (.ref q) H'
  | .ex x => ∀ G' H', Ext G H G' H' → Wx x H'
  | .no => False
theorem PostN.fin {K : PySem.W.Frag} {Wx : Str → Hp → Prop} {Q : VK} : Fin Wx (fun r G H => PostN K Wx G H r Q) := by
  refine ⟨fun r G H G1 H1 h e => ?_, fun _ _ _ h => h, fun _ _ h => h⟩
  cases r with
  | ok ds => exact fun q xs G' H' e' h1 => h q xs G' H' (e.trans e') (e.hh.free h1)
  | ex x => exact fun G' H' e' => h G' H' (e.trans e')
  | no => exact h
theorem PostL.fin {K : PySem.W.Frag} {Wx : Str → Hp → Prop} {Q : VK} : Fin Wx (fun r G H => PostL K Wx G H r Q) := by
  refine ⟨fun r G H G1 H1 h e => ?_, fun _ _ _ h => h, fun _ _ h => h⟩
  cases r with
  | ok ds => exact fun q xs G' H' e' => h q xs G' H' (e.trans e')
  | ex x => exact fun G' H' e' => h G' H' (e.trans e')
  | no => exact h
def tN (K : PySem.W.Frag) (mg : Str → Option Value) (W : WX) (f : EnvS → R (List D)) : TE := fun σ H Q => ∃ G ρ, Same G H ∧ EnvE K G H σ ρ ∧ PostN K (Wxo mg W σ) G H (f ρ) Q
def tL (K : PySem.W.Frag) (mg : Str → Option Value) (W : WX) (f : EnvS → R (List D)) : TE := fun σ H Q => ∃ G ρ, Same G H ∧ EnvE K G H σ ρ ∧ PostL K (Wxo mg W σ) G H (f ρ) Q
abbrev PDN (X : Cx) (W : WX) (e : Expr) (f : EnvS → R (List D)) : Prop := PE X e (tN X.K X.mg W f)
abbrev PDL (X : Cx) (W : WX) (e : Expr) (f : EnvS → R (List D)) : Prop := PE X e (tL X.K X.mg W f)
section
variable {K : PySem.W.Frag} {mg : Str → Option Value} {W : WX} {σ : L2.St} {ρ : EnvS} {G H : Hp}
theorem seqP {α β υ : Type} {rp : Hp → υ → α → Prop} {P : R β → Hp → Hp → Prop} {f : EnvS → R α} {k : α → R β} {Q1 : υ → Hp → Prop} (F : Fin (Wxo mg W σ) P)
    (h : P ((f ρ).bind k) G H) (hs : Same G H) (he : EnvE K G H σ ρ)
    (q : ∀ a v G1 H1, f ρ = .ok a → Ext G H G1 H1 → rp G1 v a → EnvE K G1 H1 σ ρ → P (k a) G1 H1 → Q1 v H1) : tD K mg W rp f σ H Q1 := by
  refine ⟨G, ρ, hs, he, ?_⟩
  cases e : f ρ with
  | ok a =>
    rw [e] at h
    intro v G1 H1 e1 r1
    exact q a v G1 H1 e e1 r1 (he.up e1) (F.later _ _ _ _ _ h e1)
  | ex x =>
    rw [e] at h
    exact F.ex x G H h
  | no =>
    rw [e] at h
    exact (F.no G H h).elim
theorem seqL {β : Type} {P : R β → Hp → Hp → Prop} {f : EnvS → R (List D)} {k : List D → R β} {Q1 : VK} (F : Fin (Wxo mg W σ) P)
    (h : P ((f ρ).bind k) G H) (hs : Same G H) (he : EnvE K G H σ ρ)
    (q : ∀ ds a xs G1 H1, f ρ = .ok ds → Ext G H G1 H1 → H1 a = some (.lst xs) → RpAll K G1 xs ds → EnvE K G1 H1 σ ρ → P (k ds) G1 H1 → Q1 (.ref a) H1) : tL K mg W f σ H Q1 := by
  refine ⟨G, ρ, hs, he, ?_⟩
  cases e : f ρ with
  | ok a =>
    rw [e] at h
    intro v xs G1 H1 e1 r1 r2
    exact q a v xs G1 H1 e e1 r1 r2 (he.up e1) (F.later _ _ _ _ _ h e1)
  | ex x =>
    rw [e] at h
    exact F.ex x G H h
  | no =>
    rw [e] at h
    exact (F.no G H h).elim
end
theorem R.bind_assoc {α β γ : Type} (r : R α) (f : α → R β) (g : β → R γ) : (r.bind f).bind g = r.bind fun a => (f a).bind g := by cases r <;> rfl
def lstF (f : EnvS → R (List D)) : EnvS → R D := fun ρ => (f ρ).bind fun ds => .ok (.list ds)
def asLF (f : EnvS → R D) : EnvS → R (List D) := fun ρ => (f ρ).bind fun d => match d with
  | .list ds => .ok ds
  | _ => .no
section
variable {X : Cx} {W : WX}
/-- a new list is settled -/
theorem tN_of {f : EnvS → R (List D)} {σ : L2.St} {H : Hp} {Q : VK} (h : tD X.K X.mg W (rpE X.K) (lstF f) σ H Q) : tN X.K X.mg W f σ H Q := by
  obtain ⟨G, ρ, hs, he, q⟩ := h
  unfold lstF at q
  refine ⟨G, ρ, hs, he, ?_⟩
  cases e : f ρ with
  | ok ds =>
    rw [e] at q
    intro a xs G1 H1 e1 n1 n2 h1 r1
    refine q (.ref a) (upd G1 a (.lst xs)) H1 ⟨fun b o hb => ?_, e1.hh, e1.gg.trans (same_upd n2), fun p h1 h2 => ?_⟩ (.lst upd_same (r1.up (same_upd n2)))
    · by_cases hab : b = a
      · subst hab; rw [upd_same] at hb; cases hb; exact h1
      · rw [upd_ne hab] at hb; exact e1.sub _ _ hb
    · by_cases hpa : p = a
      · subst hpa; exact n1
      · rw [upd_ne hpa] at h2; exact e1.fr p h1 h2
  | ex x => rw [e] at q; exact q
  | no => rw [e] at q; exact q
theorem d_new {e : Expr} {f : EnvS → R (List D)} (h : PDN X W e f) : PD X W e (lstF f) := L2.PE.wk h fun σ H Q q => tN_of q
theorem l_new {e : Expr} {f : EnvS → R (List D)} (h : PDN X W e f) : PDL X W e f := L2.PE.wk h fun σ H Q ⟨G, ρ, hs, he, q⟩ => by
  refine ⟨G, ρ, hs, he, ?_⟩
  cases e : f ρ with
  | ok ds => rw [e] at q; exact fun a xs G1 H1 e1 _ _ h1 r1 => q a xs G1 H1 e1 h1 r1
  | ex x => rw [e] at q; exact q
  | no => rw [e] at q; exact q
theorem l_of {e : Expr} {f : EnvS → R D} (h : PD X W e f) : PDL X W e (asLF f) := L2.PE.wk h fun σ H Q ⟨G, ρ, hs, he, q⟩ => by
  unfold asLF at q
  refine seqP PostL.fin q hs he fun a v G1 H1 _ e1 r1 he1 q1 => ?_
  cases a with
  | list ds =>
    obtain ⟨a, xs, rfl, h1, g1, p1⟩ := r1.seqL e1.sub
    exact q1 a xs G1 H1 (.refl e1.sub) h1 p1
  | _ => exact q1.elim
def ownD (i : Nat) : EnvS → R (List D) := fun ρ => match ρ[i]? with
  | some (some (.ow ds)) => .ok ds
  | _ => .no
theorem l_own (i : Nat) {x : Str} {pos : Pos} (hN : X.N[i]? = some x := by rfl) (hv : Vis X.env.scope x := by first | exact Or.inl rfl | exact Or.inr (Or.inl rfl) | exact Or.inr (Or.inr rfl)) (hd : (x == ("__debug__" : Str)) = false := by decide)
    (hcd : (x == ("__classdict__" : Str)) = false := by decide) : PDL X W (.Name x pos) (ownD i) := (pe_var hN hv hd hcd).wk fun σ H Q ⟨G, ρ, hs, he, q⟩ => by
  unfold ownD at q
  cases e : ρ[i]? with
  | none => rw [e] at q; exact q.elim
  | some o =>
    cases o with
    | none => rw [e] at q; exact q.elim
    | some d =>
      cases d with
      | pu ds => rw [e] at q; exact q.elim
      | ow d =>
        rw [e] at q
        obtain ⟨p, vs, h1, h2, h3, h4⟩ := he.ow i d e
        exact ⟨_, h1, q p vs G H (.refl hs) h2 h4⟩

/-! ### argument lists, displays -/
def nilA : EnvS → R (List D) := fun _ => .ok []
def consA (f : EnvS → R D) (g : EnvS → R (List D)) : EnvS → R (List D) := fun ρ => (f ρ).bind fun a => (g ρ).bind fun as => .ok (a :: as)
theorem a_nil : PAD X W [] nilA := pa_nil.wk fun σ H Q ⟨G, ρ, hs, he, q⟩ => Post.done (rp := rpL X.K) q hs .nil
theorem a_cons {e : Expr} {es : List Expr} {f : EnvS → R D} {g : EnvS → R (List D)} (ha : PD X W e f) (hr : PAD X W es g) (hs : starEach (e :: es) X.env = (false, eval e X.env) :: starEach es X.env := by rfl) : PAD X W (e :: es) (consA f g) :=
  (pa_cons ha hr hs).wk fun σ H Q ⟨G, ρ, hs, he, q⟩ => Post.seq q hs he fun a v G1 H1 _ e1 r1 he1 q1 => Post.seq q1 e1.sub he1 fun as vs G2 H2 _ e2 r2 he2 q2 => Post.done (rp := rpL X.K) q2 e2.sub (.cons (Rp.up r1 e2.gg) r2)
def tupD (g : EnvS → R (List D)) : EnvS → R D := fun ρ => (g ρ).bind fun as => if lineOk as.length then .ok (.tuple as) else .no
def newD (g : EnvS → R (List D)) : EnvS → R (List D) := fun ρ => (g ρ).bind fun as => if lineOk as.length then .ok as else .no
theorem d_tup {es : List Expr} {k : Nat} {pos : Pos} {g : EnvS → R (List D)} (h : PAD X W es g) : PD X W (.Tuple es k pos) (tupD g) := (pe_tup h).wk fun σ H Q ⟨G, ρ, hs, he, q⟩ =>
  Post.seq q hs he fun as vs G1 H1 _ e1 r1 he1 q1 => by
    split at q1
    · rename_i hl
      refine ⟨by rw [RpAll.length r1]; exact lineOk_le hl, fun p hp => ?_⟩
      have e := Ext.new (o := .tup vs) e1.sub hp
      exact q1 _ _ _ e (.tup (SqT.of upd_same) (RpAll.up r1 e.gg))
    · exact q1.elim
theorem n_lst {es : List Expr} {pos : Pos} {g : EnvS → R (List D)} (h : PAD X W es g) : PDN X W (.List es pos) (newD g) := (pe_lst h).wk fun σ H Q ⟨G, ρ, hs, he, q⟩ =>
  seqP PostN.fin q hs he fun as vs G1 H1 _ e1 r1 he1 q1 => by
    split at q1
    · rename_i hl
      refine ⟨by rw [RpAll.length r1]; exact lineOk_le hl, fun p hp => ?_⟩
      exact q1 p vs G1 _ ⟨e1.sub.trans (same_upd hp), same_upd hp, .refl _, fun p h1 h2 => absurd h1 h2⟩ hp (e1.sub.free hp) upd_same r1
    · exact q1.elim

/-! ### slices -/
abbrev POD (X : Cx) (W : WX) (e : Option Expr) (f : EnvS → R (Option Int)) : Prop := PO X e (tD X.K X.mg W (fun _ a b => a = b) f)
theorem _root_.L2.PO.wk {X : Cx} {e : Option Expr} {t t' : TO} (h : PO X e t) (w : ∀ σ H Q, t' σ H Q → t σ H Q) : PO X e t' := ⟨fun pins s σ H Q I q => h.run pins s σ H Q I (w σ H Q q)⟩
def noP : EnvS → R (Option Int) := fun _ => .ok none
def someP (f : EnvS → R D) : EnvS → R (Option Int) := fun ρ => (f ρ).bind fun d => match d with
  | .int i => .ok (some i)
  | _ => .no
theorem o_none : POD X W none noP := po_none.wk fun σ H Q ⟨G, ρ, hs, he, q⟩ => Post.done (v := none) q hs rfl
theorem o_some {e : Expr} {f : EnvS → R D} (h : PD X W e f) : POD X W (some e) (someP f) := (po_some h).wk fun σ H Q ⟨G, ρ, hs, he, q⟩ =>
  Post.seq q hs he fun a v G1 H1 _ e1 r1 he1 q1 => by
    cases a with
    | int i => cases r1; exact ⟨i, rfl, Post.done (v := some i) q1 e1.sub rfl⟩
    | _ => exact q1.elim
def slcD (f : EnvS → R D) (g h : EnvS → R (Option Int)) : EnvS → R D := fun ρ => (f ρ).bind fun d => (g ρ).bind fun lo => (h ρ).bind fun hi => match d with
  | .tuple ds => .ok (.tuple (cutD ds lo hi))
  | _ => .no
def slcL (f : EnvS → R (List D)) (g h : EnvS → R (Option Int)) : EnvS → R (List D) := fun ρ => (f ρ).bind fun ds => (g ρ).bind fun lo => (h ρ).bind fun hi => .ok (cutD ds lo hi)
theorem RpAll.cut {K : PySem.W.Frag} {H : Hp} {xs : List V} {ds : List D} (r : RpAll K H xs ds) (lo hi : Option Int) : RpAll K H (cutV xs lo hi) (cutD ds lo hi) := by
  unfold cutV cutD
  rw [r.length]
  exact (r.drop _).take _
theorem cut_all {α : Type} {xs : List α} {lo hi : Option Int} (h : HT.sIx xs.length 0 lo = 0 ∧ HT.sIx xs.length xs.length hi = xs.length) : cutD xs lo hi = xs := by
  unfold cutD
  rw [h.1, h.2, List.drop_zero, Nat.sub_zero, List.take_length]
/-- t[lo:hi] of a tuple -/
theorem d_slcT {e : Expr} {lo hi : Option Expr} {p2 pos : Pos} {f : EnvS → R D} {g h : EnvS → R (Option Int)} (he : PD X W e f) (hl : POD X W lo g) (hu : POD X W hi h) : PD X W (.Subscript e (.Slice lo hi none p2) pos) (slcD f g h) :=
  (pe_slice sl_tupA he hl hu).wk fun σ H Q ⟨G, ρ, hs, he, q⟩ => by
    unfold slcD at q
    refine Post.seq q hs he fun a v G1 H1 _ e1 r1 he1 q1 => ?_
    refine Post.seq q1 e1.sub he1 fun lo lo' G2 H2 _ e2 r2 he2 q2 => ?_
    refine Post.seq q2 e2.sub he2 fun hi hi' G3 H3 _ e3 r3 he3 q3 => ?_
    subst r2 r3
    cases a with
    | tuple ds =>
      obtain ⟨l, xs, rfl, h1, g1, p1⟩ := Rp.seqT (Rp.up r1 (e2.gg.trans e3.gg)) e3.sub
      refine ⟨l, xs, rfl, h1, fun hw => ?_, fun _ p hp => ?_⟩
      · rw [p1.length] at hw
        have q3 : Post (rpE X.K) (Wxo X.mg W σ) G3 H3 (.ok (.tuple (cutD ds lo' hi'))) Q := q3
        rw [cut_all hw] at q3
        exact q3.done e3.sub (.tup g1 p1)
      · have e := Ext.new (o := .tup (cutV xs lo' hi')) e3.sub hp
        exact q3 _ _ _ e (.tup (SqT.of upd_same) ((p1.cut lo' hi').up e.gg))
    | _ => exact q3.elim
theorem Ext.newH {G H : Hp} {p : Addr} {o : HO} (h : Same G H) (hp : H p = none) : Ext G H G (upd H p o) := ⟨h.trans (same_upd hp), same_upd hp, .refl _, fun _ h1 h2 => absurd h1 h2⟩
theorem n_slc {e : Expr} {lo hi : Option Expr} {p2 pos : Pos} {f : EnvS → R (List D)} {g h : EnvS → R (Option Int)} (he : PDL X W e f) (hl : POD X W lo g) (hu : POD X W hi h) : PDN X W (.Subscript e (.Slice lo hi none p2) pos) (slcL f g h) :=
  (pe_slice sl_list he hl hu).wk fun σ H Q ⟨G, ρ, hs, he, q⟩ => by
    unfold slcL at q
    refine seqL PostN.fin q hs he fun ds a xs G1 H1 _ e1 h1 r1 he1 q1 => ?_
    refine seqP PostN.fin q1 e1.sub he1 fun lo lo' G2 H2 _ e2 r2 he2 q2 => ?_
    refine seqP PostN.fin q2 e2.sub he2 fun hi hi' G3 H3 _ e3 r3 he3 q3 => ?_
    subst r2 r3
    refine ⟨a, xs, rfl, SqL.of ((e2.hh.trans e3.hh) _ _ h1), fun p hp => ?_⟩
    exact q3 p _ G3 _ (Ext.newH e3.sub hp) hp (e3.sub.free hp) upd_same ((r1.up (e2.gg.trans e3.gg)).cut _ _)
/-- script[:63] and its like -/
def asSF (f : EnvS → R D) : EnvS → R (List D) := fun ρ => (f ρ).bind fun d => match d with
  | PyData.dict [(PyData.none, PyData.list ds)] => .ok ds
  | _ => .no
theorem scr_inv {K : PySem.W.Frag} {G : Hp} {v : V} {ds : List D} (h : Rp K G v (.dict [(.none, .list ds)])) : ∃ (a : Addr) (ns : List Int), v = .ref a ∧ ds = ns.map PyData.int ∧ SqL K G a (ns.map V.int) := by
  generalize hd : (PyData.dict [(.none, .list ds)] : D) = d at h
  cases h with
  | scr h1 =>
    unfold scrD at hd
    injection hd with e1
    injection e1 with e2
    injection e2 with e3 e4
    injection e4 with e5
    exact ⟨_, _, rfl, e5, h1⟩
  | _ => cases hd
theorem n_slcS {e : Expr} {lo hi : Option Expr} {p2 pos : Pos} {f : EnvS → R D} {g h : EnvS → R (Option Int)} (he : PD X W e f) (hl : POD X W lo g) (hu : POD X W hi h) : PDN X W (.Subscript e (.Slice lo hi none p2) pos) (slcL (asSF f) g h) :=
  (pe_slice sl_list he hl hu).wk fun σ H Q ⟨G, ρ, hs, he, q⟩ => by
    unfold slcL asSF at q
    rw [R.bind_assoc] at q
    refine seqP PostN.fin q hs he fun a v G1 H1 _ e1 r1 he1 q1 => ?_
    split at q1
    · rename_i ds
      refine seqP PostN.fin q1 e1.sub he1 fun lo lo' G2 H2 _ e2 r2 he2 q2 => ?_
      refine seqP PostN.fin q2 e2.sub he2 fun hi hi' G3 H3 _ e3 r3 he3 q3 => ?_
      subst r2 r3
      obtain ⟨a, ns, rfl, rfl, h1⟩ := scr_inv r1
      refine ⟨a, _, rfl, ((e2.gg.trans e3.gg).trans e3.sub).seq h1, fun p hp => ?_⟩
      exact q3 p _ G3 _ (Ext.newH e3.sub hp) hp (e3.sub.free hp) upd_same ((RpAll.ints ns).cut _ _)
    · exact q1.elim

/-! ### list + list of lists that may be read; items -/
def catL (f g : EnvS → R (List D)) : EnvS → R (List D) := fun ρ => (f ρ).bind fun a => (g ρ).bind fun b => if lineOk (a.length + b.length) then .ok (a ++ b) else .no
theorem n_cat {a b : Expr} {pos : Pos} {f g : EnvS → R (List D)} (ha : PDL X W a f) (hb : PDL X W b g) : PDN X W (.BinOp a .Add b pos) (catL f g) := (pe_op op_cat ha hb).wk fun σ H Q ⟨G, ρ, hs, he, q⟩ => by
  unfold catL at q
  refine seqL PostN.fin q hs he fun ds a xs G1 H1 _ e1 h1 r1 he1 q1 => ?_
  refine seqL PostN.fin q1 e1.sub he1 fun es b ys G2 H2 _ e2 h2 r2 he2 q2 => ?_
  split at q2
  · rename_i hl
    refine ⟨a, b, xs, ys, rfl, rfl, e2.hh _ _ h1, h2, by rw [r1.length, r2.length]; exact lineOk_le hl, fun p hp => ?_⟩
    exact q2 p _ G2 _ (Ext.newH e2.sub hp) hp (e2.sub.free hp) upd_same ((r1.up e2.gg).append r2)
  · exact q2.elim
def ixL (f : EnvS → R (List D)) (g : EnvS → R D) : EnvS → R D := fun ρ => (f ρ).bind fun ds => (g ρ).bind fun i => ixD (.list ds) i
theorem d_ixL {a b : Expr} {pos : Pos} {f : EnvS → R (List D)} {g : EnvS → R D} (ha : PDL X W a f) (hb : PD X W b g) (hp : PlainIx b := by intro _ _; rfl) : PD X W (.Subscript a b pos) (ixL f g) := (pe_ix ix_list ha hb hp).wk fun σ H Q ⟨G, ρ, hs, he, q⟩ => by
  unfold ixL at q
  refine seqL Post.fin q hs he fun ds l xs G1 H1 _ e1 h1 r1 he1 q1 => ?_
  refine Post.seq q1 e1.sub he1 fun i v G2 H2 _ e2 r2 he2 q2 => ?_
  cases i with
  | int i =>
    cases r2
    unfold ixD at q2
    cases e : atD ds i with
    | none => simp only [e] at q2; exact q2.elim
    | some d =>
      simp only [e] at q2
      obtain ⟨j, hj, hd⟩ := atD_at e
      obtain ⟨v, hv, rv⟩ := r1.get hd
      refine ⟨l, xs, i, v, rfl, rfl, SqL.of (e2.hh _ _ h1), ?_, q2.done e2.sub (rv.up e2.gg)⟩
      unfold atI
      rw [r1.length, hj]
      exact hv
  | _ => exact q2.elim
/-! ### calls of built-ins -/
/-- a call's reading serves a function of data -/
def CallD (X : Cx) (r : List V → Hp → VK → Prop) (k : List D → R D) : Prop := ∀ (ds : List D) (xs : List V) (G H : Hp) (Wx : Str → Hp → Prop) (Q : VK), Same G H → RpAll X.K G xs ds → Post (rpE X.K) Wx G H (k ds) Q → r xs H Q
/-- of one list that may be read -/
def LstD (X : Cx) (r : List V → Hp → VK → Prop) (k : List D → R D) : Prop := ∀ (ds : List D) (a : Addr) (xs : List V) (G H : Hp) (Wx : Str → Hp → Prop) (Q : VK), Same G H → H a = some (.lst xs) → RpAll X.K G xs ds → Post (rpE X.K) Wx G H (k ds) Q → r [.ref a] H Q
def LstN (X : Cx) (r : List V → Hp → VK → Prop) (k : List D → R (List D)) : Prop := ∀ (ds : List D) (a : Addr) (xs : List V) (G H : Hp) (Wx : Str → Hp → Prop) (Q : VK), Same G H → H a = some (.lst xs) → RpAll X.K G xs ds → PostN X.K Wx G H (k ds) Q → r [.ref a] H Q
def callF (k : List D → R D) (g : EnvS → R (List D)) : EnvS → R D := fun ρ => (g ρ).bind k
variable {x : Str} {p pos : Pos} {e : Expr} {es : List Expr} {id T : String} {r : List V → Hp → VK → Prop}
theorem d_blt {k : List D → R D} {g : EnvS → R (List D)} (hc : CallR X (.builtin id) r) (hr : CallD X r k) (hm : X.mg x = none) (hv : bootBuiltins x = some (.builtin id)) (ha : PAD X W (e :: es) g) (hg : Gl X x := by rfl) (hn : x ≠ "__name__" := by decide) (hdb : (x == ("__debug__" : Str)) = false := by decide)
    (he : starEach (e :: es) X.env = (false, eval e X.env) :: starEach es X.env := by rfl) (hpl : (backTo pos (starEach es X.env)).any (·.1) = false := by rfl) : PD X W (.Call (.Name x p) (e :: es) [] pos) (callF k g) :=
  (pe_callB hc hg hm hv ha hn hdb he hpl).wk fun σ H Q ⟨G, ρ, hs, he, q⟩ => Post.seq q hs he fun as vs G1 H1 _ e1 r1 he1 q1 => hr as vs G1 H1 _ Q e1.sub r1 q1
theorem d_ty {k : List D → R D} {g : EnvS → R (List D)} (hc : CallR X (.type T) r) (hr : CallD X r k) (hm : X.mg x = none) (hv : bootBuiltins x = some (.type T)) (ha : PAD X W (e :: es) g) (hg : Gl X x := by rfl) (hn : x ≠ "__name__" := by decide) (hdb : (x == ("__debug__" : Str)) = false := by decide)
    (he : starEach (e :: es) X.env = (false, eval e X.env) :: starEach es X.env := by rfl) (hpl : (backTo pos (starEach es X.env)).any (·.1) = false := by rfl) : PD X W (.Call (.Name x p) (e :: es) [] pos) (callF k g) :=
  (pe_callTy hc hg hm hv ha hn hdb he hpl).wk fun σ H Q ⟨G, ρ, hs, he, q⟩ => Post.seq q hs he fun as vs G1 H1 _ e1 r1 he1 q1 => hr as vs G1 H1 _ Q e1.sub r1 q1
theorem d_bltL {k : List D → R D} {g : EnvS → R (List D)} (hc : CallR X (.builtin id) r) (hr : LstD X r k) (hm : X.mg x = none) (hv : bootBuiltins x = some (.builtin id)) (ha : PDL X W e g) (hg : Gl X x := by rfl) (hn : x ≠ "__name__" := by decide) (hdb : (x == ("__debug__" : Str)) = false := by decide)
    (he : starEach [e] X.env = (false, eval e X.env) :: starEach [] X.env := by rfl) : PD X W (.Call (.Name x p) [e] [] pos) (callF k g) :=
  (pe_callB hc hg hm hv (pa_cons ha pa_nil he) hn hdb he rfl).wk fun σ H Q ⟨G, ρ, hs, he, q⟩ => seqL Post.fin q hs he fun ds a xs G1 H1 _ e1 h1 r1 he1 q1 => hr ds a xs G1 H1 _ Q e1.sub h1 r1 q1
theorem d_tyL {k : List D → R D} {g : EnvS → R (List D)} (hc : CallR X (.type T) r) (hr : LstD X r k) (hm : X.mg x = none) (hv : bootBuiltins x = some (.type T)) (ha : PDL X W e g) (hg : Gl X x := by rfl) (hn : x ≠ "__name__" := by decide) (hdb : (x == ("__debug__" : Str)) = false := by decide)
    (he : starEach [e] X.env = (false, eval e X.env) :: starEach [] X.env := by rfl) : PD X W (.Call (.Name x p) [e] [] pos) (callF k g) :=
  (pe_callTy hc hg hm hv (pa_cons ha pa_nil he) hn hdb he rfl).wk fun σ H Q ⟨G, ρ, hs, he, q⟩ => seqL Post.fin q hs he fun ds a xs G1 H1 _ e1 h1 r1 he1 q1 => hr ds a xs G1 H1 _ Q e1.sub h1 r1 q1
def callN (k : List D → R (List D)) (g : EnvS → R (List D)) : EnvS → R (List D) := fun ρ => (g ρ).bind k
theorem n_bltL {k : List D → R (List D)} {g : EnvS → R (List D)} (hc : CallR X (.builtin id) r) (hr : LstN X r k) (hm : X.mg x = none) (hv : bootBuiltins x = some (.builtin id)) (ha : PDL X W e g) (hg : Gl X x := by rfl) (hn : x ≠ "__name__" := by decide) (hdb : (x == ("__debug__" : Str)) = false := by decide)
    (he : starEach [e] X.env = (false, eval e X.env) :: starEach [] X.env := by rfl) : PDN X W (.Call (.Name x p) [e] [] pos) (callN k g) :=
  (pe_callB hc hg hm hv (pa_cons ha pa_nil he) hn hdb he rfl).wk fun σ H Q ⟨G, ρ, hs, he, q⟩ => seqL PostN.fin q hs he fun ds a xs G1 H1 _ e1 h1 r1 he1 q1 => hr ds a xs G1 H1 _ Q e1.sub h1 r1 q1
theorem n_tyL {k : List D → R (List D)} {g : EnvS → R (List D)} (hc : CallR X (.type T) r) (hr : LstN X r k) (hm : X.mg x = none) (hv : bootBuiltins x = some (.type T)) (ha : PDL X W e g) (hg : Gl X x := by rfl) (hn : x ≠ "__name__" := by decide) (hdb : (x == ("__debug__" : Str)) = false := by decide)
    (he : starEach [e] X.env = (false, eval e X.env) :: starEach [] X.env := by rfl) : PDN X W (.Call (.Name x p) [e] [] pos) (callN k g) :=
  (pe_callTy hc hg hm hv (pa_cons ha pa_nil he) hn hdb he rfl).wk fun σ H Q ⟨G, ρ, hs, he, q⟩ => seqL PostN.fin q hs he fun ds a xs G1 H1 _ e1 h1 r1 he1 q1 => hr ds a xs G1 H1 _ Q e1.sub h1 r1 q1
end
end TD

/-! TdStm: statements, loops, comprehensions, defs, over data. -/
namespace TD
open PySem PySem.Spec PyProof.Rows L2
/-! ### what a statement comes to -/
inductive Out where
  | nx (ρ : EnvS) | rt (d : D) | bk (ρ : EnvS) | ct (ρ : EnvS) | ex (x : Str) (ρ : EnvS) | no
def Out.seq : Out → (EnvS → Out) → Out
  | .nx ρ, k => k ρ
  | .rt d, _ => .rt d
  | .bk ρ, _ => .bk ρ
  | .ct ρ, _ => .ct ρ
  | .ex x ρ, _ => .ex x ρ
  | .no, _ => .no
def R.out {α : Type} : R α → EnvS → (α → Out) → Out
  | .ok a, _, k => k a
  | .ex x, ρ, _ => .ex x ρ
  | .no, _, _ => .no
section
variable {α : Type} {ρ : EnvS} {k : EnvS → Out} {j : α → Out}
@[simp] theorem Out.nx_seq : (Out.nx ρ).seq k = k ρ := rfl
@[simp] theorem Out.rt_seq {d : D} : (Out.rt d).seq k = .rt d := rfl
@[simp] theorem Out.bk_seq : (Out.bk ρ).seq k = .bk ρ := rfl
@[simp] theorem Out.ct_seq : (Out.ct ρ).seq k = .ct ρ := rfl
@[simp] theorem Out.ex_seq {x : Str} : (Out.ex x ρ).seq k = .ex x ρ := rfl
@[simp] theorem Out.no_seq : Out.no.seq k = .no := rfl
@[simp] theorem R.ok_out {a : α} : (R.ok a).out ρ j = j a := rfl
@[simp] theorem R.ex_out {x : Str} : (R.ex x : R α).out ρ j = .ex x ρ := rfl
@[simp] theorem R.no_out : (R.no : R α).out ρ j = .no := rfl
end
structure StOk (K : PySem.W.Frag) (G0 H0 G H : Hp) (σ : L2.St) (ρ : EnvS) : Prop where
  ext : Ext G0 H0 G H
  len : σ.length = ρ.length
  env : EnvE K G H σ ρ
  own : ∀ (i : Nat) (ds : List D) (p : Addr), ρ[i]? = some (some (.ow ds)) → σ[i]? = some (some (.ref p)) → H0 p = none
  inj : ∀ (i j : Nat) (ds es : List D) (p : Addr), i ≠ j → ρ[i]? = some (some (.ow ds)) → ρ[j]? = some (some (.ow es)) → σ[i]? = some (some (.ref p)) → σ[j]? ≠ some (some (.ref p))
theorem StOk.step {K : PySem.W.Frag} {G0 H0 G H G' H' : Hp} {σ : L2.St} {ρ : EnvS} (h : StOk K G0 H0 G H σ ρ) (e : Ext G H G' H') : StOk K G0 H0 G' H' σ ρ := ⟨h.ext.trans e, h.len, h.env.up e, h.own, h.inj⟩
/-- the places not in wr are as they were -/
def Fr (wr : List Nat) (σ : L2.St) (ρ : EnvS) (σ' : L2.St) (ρ' : EnvS) : Prop := ∀ i : Nat, i ∉ wr → σ'[i]? = σ[i]? ∧ ρ'[i]? = ρ[i]?
theorem Fr.refl {wr : List Nat} {σ : L2.St} {ρ : EnvS} : Fr wr σ ρ σ ρ := fun _ _ => ⟨rfl, rfl⟩
theorem Fr.mono {wr wr' : List Nat} {σ σ' : L2.St} {ρ ρ' : EnvS} (h : Fr wr σ ρ σ' ρ') (s : ∀ i, i ∈ wr → i ∈ wr') : Fr wr' σ ρ σ' ρ' := fun i hi => h i fun z => hi (s i z)
theorem Fr.trans {wr : List Nat} {σ σ1 σ' : L2.St} {ρ ρ1 ρ' : EnvS} (h : Fr wr σ ρ σ1 ρ1) (h' : Fr wr σ1 ρ1 σ' ρ') : Fr wr σ ρ σ' ρ' := fun i hi => ⟨(h' i hi).1.trans (h i hi).1, (h' i hi).2.trans (h i hi).2⟩

def PostS (K : PySem.W.Frag) (mg : Str → Option Value) (W : WX) (G0 H0 : Hp) (wr : List Nat) (σ : L2.St) (ρ : EnvS) (G : Hp) (o : Out) (Dd : Ends) : Prop :=
  match o with
  | .nx ρ' => ∀ σ' G' H', StOk K G0 H0 G' H' σ' ρ' → Same G G' → Fr wr σ ρ σ' ρ' → Dd.nx σ' H'
  | .rt d => ∀ v G' H', Ext G0 H0 G' H' → Rp K G' v d → Dd.rt v H'
  | .bk ρ' => ∀ σ' G' H', StOk K G0 H0 G' H' σ' ρ' → Same G G' → Fr wr σ ρ σ' ρ' → Dd.bk σ' H'
  | .ct ρ' => ∀ σ' G' H', StOk K G0 H0 G' H' σ' ρ' → Same G G' → Fr wr σ ρ σ' ρ' → Dd.ct σ' H'
  | .ex x ρ' => ∀ c σ' G' H', mg x = some c → StOk K G0 H0 G' H' σ' ρ' → Same G G' → Fr wr σ ρ σ' ρ' → W c none σ' H'
  | .no => False
theorem PostS.later {K : PySem.W.Frag} {mg : Str → Option Value} {W : WX} {G0 H0 : Hp} {wr wr' : List Nat} {σ σ1 : L2.St} {ρ ρ1 : EnvS} {G G1 : Hp} {o : Out} {Dd : Ends} (h : PostS K mg W G0 H0 wr' σ ρ G o Dd) (s : ∀ i, i ∈ wr → i ∈ wr')
    (hg : Same G G1) (f : Fr wr' σ ρ σ1 ρ1) : PostS K mg W G0 H0 wr σ1 ρ1 G1 o Dd := by
  cases o with
  | nx ρ' => exact fun σ' G' H' a b c => h σ' G' H' a (hg.trans b) (f.trans (c.mono s))
  | rt d => exact h
  | bk ρ' => exact fun σ' G' H' a b c => h σ' G' H' a (hg.trans b) (f.trans (c.mono s))
  | ct ρ' => exact fun σ' G' H' a b c => h σ' G' H' a (hg.trans b) (f.trans (c.mono s))
  | ex x ρ' => exact fun cc σ' G' H' m a b c => h cc σ' G' H' m a (hg.trans b) (f.trans (c.mono s))
  | no => exact h
def tS (K : PySem.W.Frag) (mg : Str → Option Value) (W : WX) (wr : List Nat) (g : EnvS → Out) : TS := fun Dd σ H =>
  ∃ G0 H0 G ρ, StOk K G0 H0 G H σ ρ ∧ PostS K mg W G0 H0 wr σ ρ G (g ρ) Dd
abbrev PSD (X : Cx) (W : WX) (wr : List Nat) (st : Stmt) (g : EnvS → Out) : Prop := PS X st (tS X.K X.mg W wr g)
abbrev PSsD (X : Cx) (W : WX) (wr : List Nat) (st : List Stmt) (g : EnvS → Out) : Prop := PSs X st (tS X.K X.mg W wr g)
section
variable {K : PySem.W.Frag} {mg : Str → Option Value} {W : WX} {σ : L2.St} {ρ : EnvS} {G0 H0 G H : Hp} {wr : List Nat} {Dd : Ends}
/-- an expression within a statement -/
theorem outE {α υ : Type} {rp : Hp → υ → α → Prop} {f : EnvS → R α} {k : α → Out} {Q1 : υ → Hp → Prop} (q : PostS K mg W G0 H0 wr σ ρ G ((f ρ).out ρ k) Dd) (ok : StOk K G0 H0 G H σ ρ)
    (c : ∀ a v G1 H1, f ρ = .ok a → Ext G H G1 H1 → rp G1 v a → StOk K G0 H0 G1 H1 σ ρ → PostS K mg W G0 H0 wr σ ρ G1 (k a) Dd → Q1 v H1) : tD K mg W rp f σ H Q1 := by
  refine ⟨G, ρ, ok.ext.sub, ok.env, ?_⟩
  cases e : f ρ with
  | ok a =>
    rw [e] at q
    exact fun v G1 H1 e1 r1 => c a v G1 H1 e e1 r1 (ok.step e1) (PostS.later q (fun _ h => h) e1.gg .refl)
  | ex x =>
    rw [e] at q
    exact fun G1 H1 e1 cc m => q cc σ G1 H1 m (ok.step e1) e1.gg .refl
  | no => rw [e] at q; exact q.elim
theorem outN {f : EnvS → R (List D)} {k : List D → Out} {Q1 : VK} (q : PostS K mg W G0 H0 wr σ ρ G ((f ρ).out ρ k) Dd) (ok : StOk K G0 H0 G H σ ρ)
    (c : ∀ ds a xs G1 H1, Ext G H G1 H1 → H a = none → G1 a = none → H1 a = some (.lst xs) → RpAll K G1 xs ds → StOk K G0 H0 G1 H1 σ ρ → PostS K mg W G0 H0 wr σ ρ G1 (k ds) Dd → Q1 (.ref a) H1) : tN K mg W f σ H Q1 := by
  refine ⟨G, ρ, ok.ext.sub, ok.env, ?_⟩
  cases e : f ρ with
  | ok a =>
    rw [e] at q
    exact fun v xs G1 H1 e1 n1 n2 h1 r1 => c a v xs G1 H1 e1 n1 n2 h1 r1 (ok.step e1) (PostS.later q (fun _ h => h) e1.gg .refl)
  | ex x =>
    rw [e] at q
    exact fun G1 H1 e1 cc m => q cc σ G1 H1 m (ok.step e1) e1.gg .refl
  | no => rw [e] at q; exact q.elim
theorem outL {f : EnvS → R (List D)} {k : List D → Out} {Q1 : VK} (q : PostS K mg W G0 H0 wr σ ρ G ((f ρ).out ρ k) Dd) (ok : StOk K G0 H0 G H σ ρ)
    (c : ∀ ds a xs G1 H1, Ext G H G1 H1 → H1 a = some (.lst xs) → RpAll K G1 xs ds → StOk K G0 H0 G1 H1 σ ρ → PostS K mg W G0 H0 wr σ ρ G1 (k ds) Dd → Q1 (.ref a) H1) : tL K mg W f σ H Q1 := by
  refine ⟨G, ρ, ok.ext.sub, ok.env, ?_⟩
  cases e : f ρ with
  | ok a =>
    rw [e] at q
    exact fun v xs G1 H1 e1 h1 r1 => c a v xs G1 H1 e1 h1 r1 (ok.step e1) (PostS.later q (fun _ h => h) e1.gg .refl)
  | ex x =>
    rw [e] at q
    exact fun G1 H1 e1 cc m => q cc σ G1 H1 m (ok.step e1) e1.gg .refl
  | no => rw [e] at q; exact q.elim
theorem get_set {α : Type} {l : List (Option α)} {i j : Nat} {x : Option α} {y : α} (h : (l.set i x)[j]? = some (some y)) : (j = i ∧ x = some y ∧ i < l.length) ∨ (j ≠ i ∧ l[j]? = some (some y)) := by
  by_cases e : i = j
  · subst e
    have hl : i < l.length := by
      rcases Nat.lt_or_ge i l.length with z | z
      · exact z
      · rw [List.getElem?_eq_none (by rw [List.length_set]; exact z)] at h; cases h
    rw [List.getElem?_set_self hl] at h
    exact .inl ⟨rfl, Option.some.inj h, hl⟩
  · rw [List.getElem?_set_ne e] at h
    exact .inr ⟨Ne.symm e, h⟩
/-- settled data at a place -/
theorem StOk.put (ok : StOk K G0 H0 G H σ ρ) {v : V} {d : D} (r : Rp K G v d) (i : Nat) : StOk K G0 H0 G H (σ.set i (some v)) (ρ.set i (some (.pu d))) := by
  refine ⟨ok.ext, by rw [List.length_set, List.length_set]; exact ok.len, ⟨fun j e h => ?_, fun j ds h => ?_, by rw [List.length_set, List.length_set]; exact ok.len⟩, fun j ds p h h' => ?_, fun j l ds es p hne h1 h2 h3 h4 => ?_⟩
  · rcases get_set h with ⟨rfl, e1, hl⟩ | ⟨hj, h⟩
    · cases e1
      exact ⟨v, List.getElem?_set_self (by rw [ok.len]; exact hl), r⟩
    · rw [List.getElem?_set_ne (Ne.symm hj)]
      exact ok.env.pu j e h
  · rcases get_set h with ⟨rfl, e1, hl⟩ | ⟨hj, h⟩
    · cases e1
    · rw [List.getElem?_set_ne (Ne.symm hj)]
      exact ok.env.ow j ds h
  · rcases get_set h with ⟨rfl, e1, hl⟩ | ⟨hj, h⟩
    · cases e1
    · rw [List.getElem?_set_ne (Ne.symm hj)] at h'
      exact ok.own j ds p h h'
  · rcases get_set h1 with ⟨rfl, e1, hl⟩ | ⟨hj, h1⟩
    · cases e1
    rcases get_set h2 with ⟨rfl, e1, hl⟩ | ⟨hl, h2⟩
    · cases e1
    rw [List.getElem?_set_ne (Ne.symm hj)] at h3
    rw [List.getElem?_set_ne (Ne.symm hl)] at h4
    exact ok.inj j l ds es p hne h1 h2 h3 h4
theorem fr_set {σ : L2.St} {ρ : EnvS} {i : Nat} {v : Option V} {s : Option Sl} : Fr [i] σ ρ (σ.set i v) (ρ.set i s) := fun j hj => by
  have h : i ≠ j := fun e => hj (by rw [e]; exact List.mem_singleton_self _)
  exact ⟨List.getElem?_set_ne h, List.getElem?_set_ne h⟩
/-- a new list of one's own at a place -/
theorem StOk.putOw (ok : StOk K G0 H0 G H σ ρ) {a : Addr} {xs : List V} {ds : List D} (n : G a = none) (h0 : H0 a = none) (ha : H a = some (.lst xs)) (r : RpAll K G xs ds) (i : Nat)
    (hfr : ∀ (j : Nat) (es : List D) , ρ[j]? = some (some (.ow es)) → σ[j]? ≠ some (some (.ref a))) : StOk K G0 H0 G H (σ.set i (some (.ref a))) (ρ.set i (some (.ow ds))) := by
  refine ⟨ok.ext, by rw [List.length_set, List.length_set]; exact ok.len, ⟨fun j e h => ?_, fun j es h => ?_, by rw [List.length_set, List.length_set]; exact ok.len⟩, fun j es p h h' => ?_, fun j l fs es p hne h1 h2 h3 h4 => ?_⟩
  · rcases get_set h with ⟨rfl, e1, hl⟩ | ⟨hj, h⟩
    · cases e1
    · rw [List.getElem?_set_ne (Ne.symm hj)]
      exact ok.env.pu j e h
  · rcases get_set h with ⟨rfl, e1, hl⟩ | ⟨hj, h⟩
    · cases e1
      exact ⟨a, xs, List.getElem?_set_self (by rw [ok.len]; exact hl), ha, n, r⟩
    · rw [List.getElem?_set_ne (Ne.symm hj)]
      exact ok.env.ow j es h
  · rcases get_set h with ⟨rfl, e1, hl⟩ | ⟨hj, h⟩
    · rw [List.getElem?_set_self (by rw [ok.len]; exact hl)] at h'
      cases h'
      exact h0
    · rw [List.getElem?_set_ne (Ne.symm hj)] at h'
      exact ok.own j es p h h'
  · rcases get_set h1 with ⟨rfl, e1, hl⟩ | ⟨hj, hj1⟩
    · rw [List.getElem?_set_self (by rw [ok.len]; exact hl)] at h3
      cases h3
      rw [List.getElem?_set_ne hne] at h4 h2
      exact hfr l es h2 h4
    · rw [List.getElem?_set_ne (Ne.symm hj)] at h3
      rcases get_set h2 with ⟨rfl, e1, hl⟩ | ⟨hl, h2⟩
      · rw [List.getElem?_set_self (by rw [ok.len]; exact hl)] at h4
        cases h4
        exact hfr j fs hj1 h3
      · rw [List.getElem?_set_ne (Ne.symm hl)] at h4
        exact ok.inj j l fs es p hne hj1 h2 h3 h4
/-- one's own list is changed -/
theorem StOk.mut (ok : StOk K G0 H0 G H σ ρ) {i : Nat} {p : Addr} {xs : List V} {ds es : List D} (hi : ρ[i]? = some (some (.ow ds))) (hp : σ[i]? = some (some (.ref p))) (r : RpAll K G xs es) :
    StOk K G0 H0 G (upd H p (.lst xs)) σ (ρ.set i (some (.ow es))) := by
  obtain ⟨p', vs, e1, h1, n1, r1⟩ := ok.env.ow i ds hi
  rw [hp] at e1
  cases e1
  have h0 := ok.own i ds p hi hp
  have hil : i < ρ.length := (List.getElem?_eq_some_iff.mp hi).1
  refine ⟨⟨fun b o hb => ?_, fun b o hb => ?_, ok.ext.gg, ok.ext.fr⟩, by rw [List.length_set]; exact ok.len, ⟨fun j e h => ?_, fun j fs h => ?_, by rw [List.length_set]; exact ok.len⟩, fun j fs q h h' => ?_, fun j l fs gs q hne h1 h2 h3 h4 => ?_⟩
  · rw [upd_ne (ne_of_none hb n1)]
    exact ok.ext.sub _ _ hb
  · rw [upd_ne (ne_of_none hb h0)]
    exact ok.ext.hh _ _ hb
  · rcases get_set h with ⟨rfl, e1, hl⟩ | ⟨hj, h⟩
    · cases e1
    · exact ok.env.pu j e h
  · rcases get_set h with ⟨rfl, e1, hl⟩ | ⟨hj, h⟩
    · cases e1
      exact ⟨p, xs, hp, upd_same, n1, r⟩
    · obtain ⟨q, ws, e2, h2, n2, r2⟩ := ok.env.ow j fs h
      refine ⟨q, ws, e2, ?_, n2, r2⟩
      rw [upd_ne (fun z => ok.inj j i fs ds q hj h hi e2 (by rw [z]; exact hp))]
      exact h2
  · rcases get_set h with ⟨rfl, e1, hl⟩ | ⟨hj, h⟩
    · rw [hp] at h'; cases h'; exact h0
    · exact ok.own j fs q h h'
  · rcases get_set h1 with ⟨rfl, e1, hl⟩ | ⟨hj, hj1⟩
    · rw [List.getElem?_set_ne hne] at h2
      exact ok.inj j l ds gs q hne hi h2 h3 h4
    · rcases get_set h2 with ⟨rfl, e1, hl⟩ | ⟨hl, h2⟩
      · exact ok.inj j l fs ds q hne hj1 hi h3 h4
      · exact ok.inj j l fs gs q hne hj1 h2 h3 h4
end

section
variable {X : Cx} {W : WX} {wr wr1 wr2 : List Nat} {pos : Pos}
/-! ### blocks -/
def nxO : EnvS → Out := fun ρ => .nx ρ
def sqO (g h : EnvS → Out) : EnvS → Out := fun ρ => (g ρ).seq h
theorem ss_nil : PSsD X W [] [] nxO := pss_nil.wk fun Dd σ H ⟨G0, H0, G, ρ, ok, q⟩ => q σ G H ok (.refl _) .refl
theorem ss_one {st : Stmt} {g : EnvS → Out} (h : PSD X W wr st g) : PSsD X W wr [st] g := pss_one h
theorem ss_cons {st : Stmt} {rest : List Stmt} {g h : EnvS → Out} (h1 : PSD X W wr1 st g) (h2 : PSsD X W wr2 rest h) : PSsD X W (wr1 ++ wr2) (st :: rest) (sqO g h) := (pss_cons h1 h2).wk fun Dd σ H ⟨G0, H0, G, ρ, ok, q⟩ => by
  unfold sqO at q
  refine ⟨G0, H0, G, ρ, ok, ?_⟩
  cases e : g ρ with
  | nx ρ1 =>
    rw [e] at q
    exact fun σ1 G1 H1 ok1 s1 f1 => ⟨G0, H0, G1, ρ1, ok1, PostS.later q (fun i h => List.mem_append_right _ h) s1 (f1.mono fun i h => List.mem_append_left _ h)⟩
  | rt d => rw [e] at q; exact q
  | bk ρ1 => rw [e] at q; exact fun σ' G' H' a b c => q σ' G' H' a b (c.mono fun i h => List.mem_append_left _ h)
  | ct ρ1 => rw [e] at q; exact fun σ' G' H' a b c => q σ' G' H' a b (c.mono fun i h => List.mem_append_left _ h)
  | ex x ρ1 => rw [e] at q; exact fun cc σ' G' H' m a b c => q cc σ' G' H' m a b (c.mono fun i h => List.mem_append_left _ h)
  | no => rw [e] at q; exact q
theorem s_pass : PSD X W [] (.Pass pos) nxO := ps_pass.wk fun Dd σ H ⟨G0, H0, G, ρ, ok, q⟩ => q σ G H ok (.refl _) .refl
theorem s_break : PSD X W [] (.Break pos) (fun ρ => .bk ρ) := ps_break.wk fun Dd σ H ⟨G0, H0, G, ρ, ok, q⟩ => q σ G H ok (.refl _) .refl
theorem s_continue : PSD X W [] (.Continue pos) (fun ρ => .ct ρ) := ps_continue.wk fun Dd σ H ⟨G0, H0, G, ρ, ok, q⟩ => q σ G H ok (.refl _) .refl
theorem s_doc {x j pos pos'} : PSD X W [] (.Expr (.Constant (.str x) j pos) pos') nxO := ps_doc.wk fun Dd σ H ⟨G0, H0, G, ρ, ok, q⟩ => q σ G H ok (.refl _) .refl
def rtO (f : EnvS → R D) : EnvS → Out := fun ρ => (f ρ).out ρ fun d => .rt d
theorem s_ret {e : Expr} {f : EnvS → R D} (h : PD X W e f) : PSD X W [] (.Return (some e) pos) (rtO f) := (ps_ret h).wk fun Dd σ H ⟨G0, H0, G, ρ, ok, q⟩ =>
  outE q ok fun d v G1 H1 _ e1 r1 ok1 q1 => q1 v G1 H1 ok1.ext r1
theorem s_retN : PSD X W [] (.Return none pos) (fun _ => .rt .none) := ps_retN.wk fun Dd σ H ⟨G0, H0, G, ρ, ok, q⟩ => q .non G H ok.ext .non
/-- return of one's own list -/
theorem s_retOwn (i : Nat) {x : Str} {p pos : Pos} (hN : X.N[i]? = some x := by rfl) (hv : Vis X.env.scope x := by first | exact Or.inl rfl | exact Or.inr (Or.inl rfl) | exact Or.inr (Or.inr rfl)) (hd : (x == ("__debug__" : Str)) = false := by decide)
    (hcd : (x == ("__classdict__" : Str)) = false := by decide) : PSD X W [] (.Return (some (.Name x p)) pos) (fun ρ => (ownD i ρ).out ρ fun ds => .rt (.list ds)) := (ps_ret (pe_var hN hv hd hcd)).wk fun Dd σ H ⟨G0, H0, G, ρ, ok, q⟩ => by
  unfold ownD at q
  cases e : ρ[i]? with
  | none => simp only [e] at q; exact q.elim
  | some o =>
    cases o with
    | none => simp only [e] at q; exact q.elim
    | some d =>
      cases d with
      | pu d => simp only [e] at q; exact q.elim
      | ow ds =>
        simp only [e] at q
        obtain ⟨p, vs, h1, h2, n1, r1⟩ := ok.env.ow i ds e
        have h0 := ok.own i ds p e h1
        refine ⟨_, h1, q (.ref p) (upd G p (.lst vs)) H ⟨fun b o hb => ?_, ok.ext.hh, ok.ext.gg.trans (same_upd n1), fun b z1 z2 => ?_⟩ (.lst upd_same (r1.up (same_upd n1)))⟩
        · by_cases hab : b = p
          · subst hab; rw [upd_same] at hb; cases hb; exact h2
          · rw [upd_ne hab] at hb; exact ok.ext.sub _ _ hb
        · by_cases hab : b = p
          · subst hab; exact h0
          · rw [upd_ne hab] at z2; exact ok.ext.fr b z1 z2
def exO (f : EnvS → R D) : EnvS → Out := fun ρ => (f ρ).out ρ fun _ => .nx ρ
theorem s_expr {e : Expr} {f : EnvS → R D} (h : PD X W e f) (hs : swapsWith e none pos.line X.env = pure false := by rfl) : PSD X W [] (.Expr e pos) (exO f) := (ps_expr h hs).wk fun Dd σ H ⟨G0, H0, G, ρ, ok, q⟩ =>
  outE q ok fun d v G1 H1 _ e1 r1 ok1 q1 => q1 σ G1 H1 ok1 (.refl _) .refl
def ifO (c : EnvS → R Bool) (g h : EnvS → Out) : EnvS → Out := fun ρ => (c ρ).out ρ fun b => if b = true then g ρ else h ρ
theorem s_if {c : Expr} {a b : List Stmt} {t : EnvS → R Bool} {g h : EnvS → Out} (hc : PTD X W c t) (ha : PSsD X W wr1 a g) (hb : PSsD X W wr2 b h) : PSD X W (wr1 ++ wr2) (.If c a b pos) (ifO t g h) := (ps_if hc ha hb).wk fun Dd σ H ⟨G0, H0, G, ρ, ok, q⟩ =>
  outE q ok fun d v G1 H1 _ e1 r1 ok1 q1 => by
    cases r1
    have mono : ∀ {wr' : List Nat} {o : Out}, (∀ i, i ∈ wr' → i ∈ wr1 ++ wr2) → PostS X.K X.mg W G0 H0 (wr1 ++ wr2) σ ρ G1 o Dd → PostS X.K X.mg W G0 H0 wr' σ ρ G1 o Dd := fun s h => PostS.later h s (.refl _) .refl
    cases d with
    | true => exact ⟨G0, H0, G1, ρ, ok1, mono (fun i h => List.mem_append_left _ h) q1⟩
    | false => exact ⟨G0, H0, G1, ρ, ok1, mono (fun i h => List.mem_append_right _ h) q1⟩
/-! ### stores -/
def stO (i : Nat) (f : EnvS → R D) : EnvS → Out := fun ρ => (f ρ).out ρ fun d => .nx (ρ.set i (some (.pu d)))
def owO (i : Nat) (f : EnvS → R (List D)) : EnvS → Out := fun ρ => (f ρ).out ρ fun d => .nx (ρ.set i (some (.ow d)))
theorem s_setG {st : Stmt} {i : Nat} {f : EnvS → R D} (h : PS X st (tAsg (tD X.K X.mg W (rpE X.K) f) (gName i))) : PSD X W [i] st (stO i f) := h.wk fun Dd σ H ⟨G0, H0, G, ρ, ok, q⟩ =>
  outE q ok fun d v G1 H1 _ e1 r1 ok1 q1 => q1 _ G1 H1 (ok1.put r1 i) (.refl _) fr_set
theorem s_ownG {st : Stmt} {i : Nat} {f : EnvS → R (List D)} (h : PS X st (tAsg (tN X.K X.mg W f) (gName i))) : PSD X W [i] st (owO i f) := h.wk fun Dd σ H ⟨G0, H0, G, ρ, ok, q⟩ =>
  outN q ok fun ds a xs G1 H1 e1 n1 n2 h1 r1 ok1 q1 => q1 _ G1 H1 (ok1.putOw n2 (ok.ext.hh.free n1) h1 r1 i fun j es hj hs => by
    obtain ⟨p, vs, z1, z2, z3, z4⟩ := ok.env.ow j es hj
    rw [hs] at z1
    cases z1
    rw [n1] at z2
    cases z2) (.refl _) fr_set
/-- a new list that is settled at once -/
theorem s_setNG {st : Stmt} {i : Nat} {f : EnvS → R (List D)} (h : PS X st (tAsg (tN X.K X.mg W f) (gName i))) : PSD X W [i] st (stO i (lstF f)) := s_setG (h.wk fun Dd σ H q => tN_of q)
theorem s_set (i : Nat) {x : Str} {e : Expr} {f : EnvS → R D} {pos' : Pos} (hN : X.N.Nodup) (he : PD X W e f) (hi : X.N[i]? = some x := by rfl) (hx : Loc X.env.scope x := by first | exact Or.inl rfl | exact Or.inr rfl) (hs : swapsWith e (some (.Name x pos')) pos.line X.env = pure false := by rfl)
    (hf : X.fn x = true ∨ X.env.scope.names.lookup x = some .local := by first | exact .inl rfl | exact .inr rfl) : PSD X W [i] (.Assign [.Name x pos'] e pos) (stO i f) := s_setG (ps_set hN hi hx he hs hf)
theorem s_own (i : Nat) {x : Str} {e : Expr} {f : EnvS → R (List D)} {pos' : Pos} (hN : X.N.Nodup) (he : PDN X W e f) (hi : X.N[i]? = some x := by rfl) (hx : Loc X.env.scope x := by first | exact Or.inl rfl | exact Or.inr rfl) (hs : swapsWith e (some (.Name x pos')) pos.line X.env = pure false := by rfl)
    (hf : X.fn x = true ∨ X.env.scope.names.lookup x = some .local := by first | exact .inl rfl | exact .inr rfl) : PSD X W [i] (.Assign [.Name x pos'] e pos) (owO i f) := s_ownG (ps_set hN hi hx he hs hf)
end
end TD

/-! TdLoop: targets, unpacking, loops, comprehensions. -/
namespace TD
open PySem PySem.Spec PyProof.Rows L2
/-! ### targets: names, nested tuples of names -/
/-- places filled with settled data -/
structure Put (K : PySem.W.Frag) (G H : Hp) (wr : List Nat) (σ : L2.St) (ρ : EnvS) (σ' : L2.St) (ρ' : EnvS) : Prop where
  len : σ'.length = ρ'.length
  env : EnvE K G H σ' ρ'
  fr : Fr wr σ ρ σ' ρ'
  len' : σ'.length = σ.length
  no : ∀ i ∈ wr, ∀ ds, ρ'[i]? ≠ some (some (.ow ds))
def tG (K : PySem.W.Frag) (wr : List Nat) (h : D → EnvS → R EnvS) : TG := fun v σ H Q => ∃ G ρ d, Same G H ∧ σ.length = ρ.length ∧ EnvE K G H σ ρ ∧ Rp K G v d ∧ ∃ ρ', h d ρ = .ok ρ' ∧ ∀ σ', Put K G H wr σ ρ σ' ρ' → Q σ' H
def tGs (K : PySem.W.Frag) (wr : List Nat) (h : List D → EnvS → R EnvS) : TGs := fun vs σ H Q => ∃ G ρ ds, Same G H ∧ σ.length = ρ.length ∧ EnvE K G H σ ρ ∧ RpAll K G vs ds ∧ ∃ ρ', h ds ρ = .ok ρ' ∧ ∀ σ', Put K G H wr σ ρ σ' ρ' → Q σ' H
abbrev PGD (X : Cx) (wr : List Nat) (e : Expr) (h : D → EnvS → R EnvS) : Prop := PG X e (tG X.K wr h)
abbrev PGsD (X : Cx) (wr : List Nat) (es : List Expr) (h : List D → EnvS → R EnvS) : Prop := PGs X es (tGs X.K wr h)
theorem _root_.L2.PG.wk {X : Cx} {e : Expr} {t t' : TG} (h : PG X e t) (w : ∀ v σ H Q, t' v σ H Q → t v σ H Q) : PG X e t' := ⟨fun pins s σ H v u Q I r q => h.run pins s σ H v u Q I r (w v σ H Q q)⟩
theorem _root_.L2.PGs.wk {X : Cx} {e : List Expr} {t t' : TGs} (h : PGs X e t) (w : ∀ v σ H Q, t' v σ H Q → t v σ H Q) : PGs X e t' := ⟨fun pins s σ H v u Q I r q => h.run pins s σ H v u Q I r (w v σ H Q q)⟩
def nmG (i : Nat) : D → EnvS → R EnvS := fun d ρ => .ok (ρ.set i (some (.pu d)))
def nilG : List D → EnvS → R EnvS := fun ds ρ => match ds with
  | [] => .ok ρ
  | _ => .no
def consG (h : D → EnvS → R EnvS) (k : List D → EnvS → R EnvS) : List D → EnvS → R EnvS := fun ds ρ => match ds with
  | d :: r => (h d ρ).bind fun ρ1 => k r ρ1
  | [] => .no
def tupG (n : Nat) (k : List D → EnvS → R EnvS) : D → EnvS → R EnvS := fun d ρ => match d with
  | .tuple ds => if ds.length = n then k ds ρ else .no
  | _ => .no
theorem put_set {K : PySem.W.Frag} {G H : Hp} {σ : L2.St} {ρ : EnvS} {v : V} {d : D} (hl : σ.length = ρ.length) (he : EnvE K G H σ ρ) (r : Rp K G v d) (i : Nat) : Put K G H [i] σ ρ (σ.set i (some v)) (ρ.set i (some (.pu d))) := by
  refine ⟨by rw [List.length_set, List.length_set]; exact hl, ⟨fun j e h => ?_, fun j ds h => ?_, by rw [List.length_set, List.length_set]; exact hl⟩, fr_set, List.length_set, fun j hj ds h => ?_⟩
  · rcases get_set h with ⟨rfl, e1, hlt⟩ | ⟨hj, h⟩
    · cases e1
      exact ⟨v, List.getElem?_set_self (by rw [hl]; exact hlt), r⟩
    · rw [List.getElem?_set_ne (Ne.symm hj)]
      exact he.pu j e h
  · rcases get_set h with ⟨rfl, e1, hlt⟩ | ⟨hj, h⟩
    · cases e1
    · rw [List.getElem?_set_ne (Ne.symm hj)]
      exact he.ow j ds h
  · rw [List.mem_singleton] at hj
    subst hj
    rcases get_set h with ⟨_, e1, hlt⟩ | ⟨hj, h⟩
    · cases e1
    · exact hj rfl
section
variable {X : Cx} {W : WX} {wr wr1 wr2 : List Nat} {pos : Pos}
theorem g_name (i : Nat) {x : Str} (hN : X.N.Nodup) (hi : X.N[i]? = some x := by rfl) (hx : Loc X.env.scope x := by first | exact Or.inl rfl | exact Or.inr rfl) (hf : X.fn x = true ∨ X.env.scope.names.lookup x = some .local := by first | exact .inl rfl | exact .inr rfl) : PGD X [i] (.Name x pos) (nmG i) :=
  (pg_name hN hi hx hf).wk fun v σ H Q ⟨G, ρ, d, hs, hl, he, r, ρ', e, q⟩ => by
    cases e
    exact q _ (put_set hl he r i)
theorem gs_nil : PGsD X [] [] nilG := pgs_nil.wk fun vs σ H Q ⟨G, ρ, ds, hs, hl, he, r, ρ', e, q⟩ => by
  cases r with
  | nil =>
    cases e
    exact ⟨rfl, q σ ⟨hl, he, .refl, rfl, fun i h => by cases h⟩⟩
  | cons _ _ => cases e
theorem Put.trans {K : PySem.W.Frag} {G H : Hp} {σ σ1 σ2 : L2.St} {ρ ρ1 ρ2 : EnvS} (a : Put K G H wr1 σ ρ σ1 ρ1) (b : Put K G H wr2 σ1 ρ1 σ2 ρ2) : Put K G H (wr1 ++ wr2) σ ρ σ2 ρ2 := by
  refine ⟨b.len, b.env, (a.fr.mono fun i h => List.mem_append_left _ h).trans (b.fr.mono fun i h => List.mem_append_right _ h), b.len'.trans a.len', fun i hi ds h => ?_⟩
  by_cases h2 : i ∈ wr2
  · exact b.no i h2 ds h
  · rw [(b.fr i h2).2] at h
    rcases List.mem_append.mp hi with h1 | h1
    · exact a.no i h1 ds h
    · exact h2 h1
theorem gs_cons {e : Expr} {es : List Expr} {h : D → EnvS → R EnvS} {k : List D → EnvS → R EnvS} (h1 : PGD X wr1 e h) (h2 : PGsD X wr2 es k)
    (hs : (assignEach (e :: es) X.env).map (·.2) = assign e X.env :: (assignEach es X.env).map (·.2) := by rfl) : PGsD X (wr1 ++ wr2) (e :: es) (consG h k) := (pgs_cons h1 h2 hs).wk fun vs σ H Q ⟨G, ρ, ds, hs, hl, he, r, ρ', e, q⟩ => by
  cases r with
  | nil => cases e
  | @cons v vr d dr r1 r2 =>
    unfold consG at e
    dsimp only at e
    cases e1 : h d ρ with
    | ok ρ1 =>
      rw [e1] at e
      exact ⟨v, vr, rfl, G, ρ, d, hs, hl, he, r1, ρ1, e1, fun σ1 p1 => ⟨G, ρ1, _, hs, p1.len, p1.env, r2, ρ', e, fun σ2 p2 => q σ2 (p1.trans p2)⟩⟩
    | ex x => rw [e1] at e; cases e
    | no => rw [e1] at e; cases e
theorem g_tup (n : Nat) {es : List Expr} {k : Nat} {g : List D → EnvS → R EnvS} (h : PGsD X wr es g) (hc : X.calm = true := by rfl)
    (hn : (assignEach es X.env).length = n := by rfl) (hst : (assignEach es X.env).findIdx? (·.1) = none := by rfl) : PGD X wr (.Tuple es k pos) (tupG n g) := (pg_tup hc h hn hst).wk fun v σ H Q ⟨G, ρ, d, hs, hl, he, r, ρ', e, q⟩ => by
  unfold tupG at e
  cases d with
  | tuple ds =>
    dsimp only at e
    split at e
    · rename_i hn
      obtain ⟨a, xs, rfl, h1, g1, p1⟩ := r.seqT hs
      exact ⟨a, xs, rfl, h1, by rw [p1.length]; exact hn, G, ρ, ds, hs, hl, he, p1, ρ', e, q⟩
    · cases e
  | _ => cases e
theorem StOk.puts {K : PySem.W.Frag} {G0 H0 G H : Hp} {σ σ' : L2.St} {ρ ρ' : EnvS} (ok : StOk K G0 H0 G H σ ρ) (p : Put K G H wr σ ρ σ' ρ') : StOk K G0 H0 G H σ' ρ' := by
  have out : ∀ (i : Nat) (ds : List D), ρ'[i]? = some (some (.ow ds)) → i ∉ wr := fun i ds h hi => p.no i hi ds h
  refine ⟨ok.ext, p.len, p.env, fun i ds a h h' => ?_, fun i j ds es a hne h1 h2 h3 h4 => ?_⟩
  · have f := p.fr i (out i ds h)
    rw [f.2] at h
    rw [f.1] at h'
    exact ok.own i ds a h h'
  · have f := p.fr i (out i ds h1)
    have f2 := p.fr j (out j es h2)
    rw [f.2] at h1
    rw [f.1] at h3
    rw [f2.2] at h2
    rw [f2.1] at h4
    exact ok.inj i j ds es a hne h1 h2 h3 h4
/-- target = value -/
def grd (r : R EnvS) : Out := match r with
  | .ok ρ => .nx ρ
  | _ => .no
def unO (f : EnvS → R D) (h : D → EnvS → R EnvS) : EnvS → Out := fun ρ => (f ρ).out ρ fun d => grd (h d ρ)
theorem s_unp {tg e : Expr} {f : EnvS → R D} {h : D → EnvS → R EnvS} (he : PD X W e f) (hg : PGD X wr tg h) (hs : swapsWithSole [tg] e pos.line X.env = pure false := by rfl) (hw : swappedStores [tg] e X.env = pure none := by rfl)
    (h1 : (assignEach [tg] X.env).map (·.2) = [assign tg X.env] := by rfl) : PSD X W wr (.Assign [tg] e pos) (unO f h) := (ps_asg he hg hs hw h1).wk fun Dd σ H ⟨G0, H0, G, ρ, ok, q⟩ =>
  outE q ok fun d v G1 H1 _ e1 r1 ok1 q1 => by
    unfold grd at q1
    cases e : h d ρ with
    | ok ρ' =>
      rw [e] at q1
      exact ⟨G1, ρ, d, ok1.ext.sub, ok1.len, ok1.env, r1, ρ', e, fun σ' p => q1 σ' G1 H1 (ok1.puts p) (.refl _) p.fr⟩
    | ex x => rw [e] at q1; exact q1.elim
    | no => rw [e] at q1; exact q1.elim
/-- a, b = e1, e2 with plain local names -/
def parO (i j : Nat) (g : EnvS → R (List D)) : EnvS → Out := fun ρ => (g ρ).out ρ fun ds => match ds with
  | [a, b] => .nx ((ρ.set i (some (.pu a))).set j (some (.pu b)))
  | _ => .no
theorem s_par (i j : Nat) {x y : Str} {a b : Expr} {px py pt : Pos} {kt k2 pt2} {g : EnvS → R (List D)} (hN : X.N.Nodup) (ha : PAD X W [a, b] g) (hc : X.calm = true := by rfl) (hi : X.N[i]? = some x := by rfl) (hj : X.N[j]? = some y := by rfl) (hij : i ≠ j := by decide)
    (hx : X.env.scope.names.lookup x = some .local := by rfl) (hy : X.env.scope.names.lookup y = some .local := by rfl)
    (hw : swappedStores [.Tuple [.Name x px, .Name y py] kt pt] (.Tuple [a, b] k2 pt2) X.env = pure (some [x, y]) := by rfl) (hs : swapsWithSole [.Tuple [.Name x px, .Name y py] kt pt] (.Tuple [a, b] k2 pt2) pos.line X.env = pure false := by rfl) :
    PSD X W [i, j] (.Assign [.Tuple [.Name x px, .Name y py] kt pt] (.Tuple [a, b] k2 pt2) pos) (parO i j g) := (ps_par hc hN hi hj hij hx hy ha hw hs).wk fun Dd σ H ⟨G0, H0, G, ρ, ok, q⟩ =>
  outE q ok fun ds vs G1 H1 _ e1 r1 ok1 q1 => by
    split at q1
    · rename_i d e
      cases r1 with
      | cons ra rr =>
        cases rr with
        | cons rb rn =>
          cases rn
          exact ⟨_, _, rfl, q1 _ G1 H1 ((ok1.put ra i).put rb j) (.refl _) ((fr_set.mono (by simp)).trans (fr_set.mono (by simp)))⟩
    · exact q1.elim
def par3O (i j l : Nat) (g : EnvS → R (List D)) : EnvS → Out := fun ρ => (g ρ).out ρ fun ds => match ds with
  | [a, b, c] => .nx (((ρ.set i (some (.pu a))).set j (some (.pu b))).set l (some (.pu c)))
  | _ => .no
theorem s_par3 (i j l : Nat) {x y z : Str} {a b c : Expr} {px py pz pt : Pos} {kt k2 pt2} {g : EnvS → R (List D)} (hN : X.N.Nodup) (ha : PAD X W [a, b, c] g) (hc : X.calm = true := by rfl) (hi : X.N[i]? = some x := by rfl) (hj : X.N[j]? = some y := by rfl) (hl : X.N[l]? = some z := by rfl) (hij : i ≠ j := by decide) (hil : i ≠ l := by decide) (hjl : j ≠ l := by decide)
    (hx : X.env.scope.names.lookup x = some .local := by rfl) (hy : X.env.scope.names.lookup y = some .local := by rfl) (hz : X.env.scope.names.lookup z = some .local := by rfl)
    (hw : swappedStores [.Tuple [.Name x px, .Name y py, .Name z pz] kt pt] (.Tuple [a, b, c] k2 pt2) X.env = pure (some [x, y, z]) := by rfl) (hs : swapsWithSole [.Tuple [.Name x px, .Name y py, .Name z pz] kt pt] (.Tuple [a, b, c] k2 pt2) pos.line X.env = pure false := by rfl) :
    PSD X W [i, j, l] (.Assign [.Tuple [.Name x px, .Name y py, .Name z pz] kt pt] (.Tuple [a, b, c] k2 pt2) pos) (par3O i j l g) := (ps_par3 hc hN hi hj hl hij hil hjl hx hy hz ha hw hs).wk fun Dd σ H ⟨G0, H0, G, ρ, ok, q⟩ =>
  outE q ok fun ds vs G1 H1 _ e1 r1 ok1 q1 => by
    split at q1
    · rename_i d e f
      cases r1 with
      | cons ra rr =>
        cases rr with
        | cons rb rn =>
          cases rn with
          | cons rc rz =>
            cases rz
            exact ⟨_, _, _, rfl, q1 _ G1 H1 (((ok1.put ra i).put rb j).put rc l) (.refl _) (((fr_set.mono (by simp)).trans (fr_set.mono (by simp))).trans (fr_set.mono (by simp)))⟩
    · exact q1.elim
/-- a, b = two new lists of one's own -/
def parNO (i j : Nat) (f g : EnvS → R (List D)) : EnvS → Out := fun ρ => (f ρ).out ρ fun ds => (g ρ).out ρ fun es => .nx ((ρ.set i (some (.ow ds))).set j (some (.ow es)))
theorem s_parN (i j : Nat) {x y : Str} {a b : Expr} {px py pt : Pos} {kt k2 pt2} {f g : EnvS → R (List D)} (hN : X.N.Nodup) (ha : PDN X W a f) (hb : PDN X W b g) (hc : X.calm = true := by rfl) (hi : X.N[i]? = some x := by rfl) (hj : X.N[j]? = some y := by rfl) (hij : i ≠ j := by decide)
    (hx : X.env.scope.names.lookup x = some .local := by rfl) (hy : X.env.scope.names.lookup y = some .local := by rfl)
    (h1 : starEach [a, b] X.env = (false, eval a X.env) :: starEach [b] X.env := by rfl) (h2 : starEach [b] X.env = (false, eval b X.env) :: starEach [] X.env := by rfl)
    (hw : swappedStores [.Tuple [.Name x px, .Name y py] kt pt] (.Tuple [a, b] k2 pt2) X.env = pure (some [x, y]) := by rfl) (hs : swapsWithSole [.Tuple [.Name x px, .Name y py] kt pt] (.Tuple [a, b] k2 pt2) pos.line X.env = pure false := by rfl) :
    PSD X W [i, j] (.Assign [.Tuple [.Name x px, .Name y py] kt pt] (.Tuple [a, b] k2 pt2) pos) (parNO i j f g) := (ps_par hc hN hi hj hij hx hy (pa_cons ha (pa_cons hb pa_nil h2) h1) hw hs).wk fun Dd σ H ⟨G0, H0, G, ρ, ok, q⟩ =>
  outN q ok fun ds p xs G1 H1 e1 m1 n1 h1 r1 ok1 q1 => outN q1 ok1 fun es p2 ys G2 H2 e2 m2 n2 h2 r2 ok2 q2 => by
    have m0 := ok.ext.hh.free m1
    have hne : p ≠ p2 := ne_of_none h1 m2
    have hp : H2 p = some (.lst xs) := e2.hh _ _ h1
    have np : G2 p = none := by
      by_cases z : G2 p = none
      · exact z
      · rw [e2.fr p n1 z] at h1; cases h1
    have fresh : ∀ (j : Nat) (es : List D), ρ[j]? = some (some (.ow es)) → σ[j]? ≠ some (some (.ref p)) := fun j es hj hs => by
      obtain ⟨p', vs, z1, z2, _, _⟩ := ok.env.ow j es hj
      rw [hs] at z1; cases z1
      rw [m1] at z2; cases z2
    have ok3 := ok2.putOw np m0 hp (r1.up e2.gg) i fresh
    have ok4 := ok3.putOw n2 (ok1.ext.hh.free m2) h2 r2 j fun l fs hl hs => by
      rcases get_set hl with ⟨rfl, z, hlt⟩ | ⟨hj', hl'⟩
      · rw [List.getElem?_set_self (by rw [ok2.len]; exact hlt)] at hs
        cases hs
        exact hne rfl
      · rw [List.getElem?_set_ne (Ne.symm hj')] at hs
        obtain ⟨p', vs, z1, z2, _, _⟩ := ok1.env.ow l fs hl'
        rw [hs] at z1; cases z1
        rw [m2] at z2; cases z2
    exact ⟨_, _, rfl, q2 _ G2 H2 ok4 (.refl _) ((fr_set.mono (by simp)).trans (fr_set.mono (by simp)))⟩
/-- name op= e -/
def IpD (X : Cx) (r : TIp) (k : D → D → R D) : Prop := ∀ (a b : D) (x y : V) (G H : Hp) (Wx : Str → Hp → Prop) (Q : VK), Same G H → Rp X.K G x a → Rp X.K G y b → Post (rpE X.K) Wx G H (k a b) Q → r x y H Q
def augO (i : Nat) (k : D → D → R D) (f : EnvS → R D) : EnvS → Out := fun ρ => match ρ[i]? with
  | some (some (.pu a)) => (f ρ).out ρ fun b => (k a b).out ρ fun c => .nx (ρ.set i (some (.pu c)))
  | _ => .no
theorem s_aug (i : Nat) {x : Str} {e : Expr} {op : Operator} {ti : TIp} {pos' : Pos} {k : D → D → R D} {f : EnvS → R D} (hN : X.N.Nodup) (he : PD X W e f) (ho : PIp X op ti) (hk : IpD X ti k) (hi : X.N[i]? = some x := by rfl) (hx : Loc X.env.scope x := by first | exact Or.inl rfl | exact Or.inr rfl)
    (hf : X.fn x = true ∨ X.env.scope.names.lookup x = some .local := by first | exact .inl rfl | exact .inr rfl) : PSD X W [i] (.AugAssign (.Name x pos') op e pos) (augO i k f) := (ps_aug hN hi hx he ho hf).wk fun Dd σ H ⟨G0, H0, G, ρ, ok, q⟩ => by
  unfold augO at q
  split at q
  · rename_i a ha
    obtain ⟨v, h1, r1⟩ := ok.env.pu i a ha
    refine ⟨v, h1, outE q ok fun b u G1 H1 _ e1 r2 ok1 q1 => ?_⟩
    refine hk a b v u G1 H1 (Wxo X.mg W σ) _ ok1.ext.sub (r1.up e1.gg) r2 ?_
    cases e : k a b with
    | ok c =>
      rw [e] at q1
      exact fun w G2 H2 e2 r3 => q1 _ G2 H2 ((ok1.step e2).put r3 i) e2.gg fr_set
    | ex x =>
      rw [e] at q1
      exact fun G2 H2 e2 cc m => q1 cc σ G2 H2 m (ok1.step e2) e2.gg .refl
    | no => rw [e] at q1; exact q1.elim
  · exact q.elim
def ipAdd : D → D → R D
  | .int a, .int b => .ok (.int (a + b))
  | _, _ => .no
theorem id_add : IpD X (ipI fun i j => i + j) ipAdd := by
  intro a b x y G H Wx Q hs ra rb q
  unfold ipAdd at q
  split at q
  · cases ra; cases rb
    exact ⟨_, _, rfl, rfl, q.done hs (.int _)⟩
  · exact q.elim
theorem id_sub : IpD X (ipI fun i j => i - j) subD := by
  intro a b x y G H Wx Q hs ra rb q
  unfold subD at q
  split at q
  · cases ra; cases rb
    exact ⟨_, _, rfl, rfl, q.done hs (.int _)⟩
  · exact q.elim

/-! ### one's own list: append, extend, pop, an item stored -/
def appO (i : Nat) (f : EnvS → R D) : EnvS → Out := fun ρ => match ρ[i]? with
  | some (some (.ow ds)) => (f ρ).out ρ fun d => if lineOk (ds.length + 1) then .nx (ρ.set i (some (.ow (ds ++ [d])))) else .no
  | _ => .no
theorem lineOk_lt {n : Nat} (h : lineOk (n + 1) = true) : n < sizeLine := lineOk_le h
theorem s_app (i : Nat) {x : Str} {e : Expr} {p apos cpos pos : Pos} {f : EnvS → R D} (he : PD X W e f) (hN : X.N[i]? = some x := by rfl) (hv : Vis X.env.scope x := by first | exact Or.inl rfl | exact Or.inr (Or.inl rfl) | exact Or.inr (Or.inr rfl)) (hd : (x == ("__debug__" : Str)) = false := by decide)
    (hcd : (x == ("__classdict__" : Str)) = false := by decide)
    (hbase : attributeBase (.Name x p) "append" X.env (eval (.Name x p) X.env) = eval (.Name x p) X.env := by rfl)
    (hfew : ((backTo cpos (starEach [e] X.env)).all (fun x => !x.1) && (backToKw cpos (keywordEach [] X.env)).all (fun x => x.1.isSome)
      && decide ([e].length + ([] : List Keyword).length + (if ([] : List Keyword).isEmpty then 0 else 1) < 30)) = true := by rfl)
    (hline : (apos.endLine == cpos.line) = true := by rfl) (hs : starEach [e] X.env = (false, eval e X.env) :: starEach [] X.env := by rfl)
    (hsw : swapsWith (.Call (.Attribute (.Name x p) "append" apos) [e] [] cpos) none pos.line X.env = pure false := by rfl) :
    PSD X W [i] (.Expr (.Call (.Attribute (.Name x p) "append" apos) [e] [] cpos) pos) (appO i f) :=
  (ps_expr (pe_bm PySem.F.plainAttrs_list PySem.F.slot_list_append PySem.F.type_list_append mt_append (pe_var hN hv hd hcd) (pa_cons he pa_nil hs) hbase hfew hline hs rfl) hsw).wk fun Dd σ H ⟨G0, H0, G, ρ, ok, q⟩ => by
    unfold appO at q
    split at q
    · rename_i ds hi
      obtain ⟨a, xs, h1, h2, n1, r1⟩ := ok.env.ow i ds hi
      refine ⟨_, h1, .inl ⟨rfl, xs, SqL.of h2⟩, outE q ok fun d v G1 H1 _ e1 rd ok1 q1 => ?_⟩
      split at q1
      · rename_i hl
        refine ⟨a, xs, v, rfl, rfl, e1.hh _ _ h2, by rw [r1.length]; exact lineOk_lt hl, ?_⟩
        exact q1 σ G1 _ (ok1.mut hi h1 ((r1.up e1.gg).append (.one rd))) (.refl _) fun j hj => ⟨rfl, List.getElem?_set_ne (fun z => hj (by rw [z]; exact List.mem_singleton_self _))⟩
      · exact q1.elim
    · exact q.elim
def extO (i : Nat) (f : EnvS → R (List D)) : EnvS → Out := fun ρ => match ρ[i]? with
  | some (some (.ow ds)) => (f ρ).out ρ fun es => if lineOk (ds.length + es.length) then .nx (ρ.set i (some (.ow (ds ++ es)))) else .no
  | _ => .no
theorem s_ext (i : Nat) {x : Str} {e : Expr} {p apos cpos pos : Pos} {f : EnvS → R (List D)} (he : PDL X W e f) (hN : X.N[i]? = some x := by rfl) (hv : Vis X.env.scope x := by first | exact Or.inl rfl | exact Or.inr (Or.inl rfl) | exact Or.inr (Or.inr rfl)) (hd : (x == ("__debug__" : Str)) = false := by decide)
    (hcd : (x == ("__classdict__" : Str)) = false := by decide)
    (hbase : attributeBase (.Name x p) "extend" X.env (eval (.Name x p) X.env) = eval (.Name x p) X.env := by rfl)
    (hfew : ((backTo cpos (starEach [e] X.env)).all (fun x => !x.1) && (backToKw cpos (keywordEach [] X.env)).all (fun x => x.1.isSome)
      && decide ([e].length + ([] : List Keyword).length + (if ([] : List Keyword).isEmpty then 0 else 1) < 30)) = true := by rfl)
    (hline : (apos.endLine == cpos.line) = true := by rfl) (hs : starEach [e] X.env = (false, eval e X.env) :: starEach [] X.env := by rfl)
    (hsw : swapsWith (.Call (.Attribute (.Name x p) "extend" apos) [e] [] cpos) none pos.line X.env = pure false := by rfl) :
    PSD X W [i] (.Expr (.Call (.Attribute (.Name x p) "extend" apos) [e] [] cpos) pos) (extO i f) :=
  (ps_expr (pe_bm PySem.F.plainAttrs_list PySem.F.slot_list_extend PySem.F.type_list_extend mt_extend (pe_var hN hv hd hcd) (pa_cons he pa_nil hs) hbase hfew hline hs rfl) hsw).wk fun Dd σ H ⟨G0, H0, G, ρ, ok, q⟩ => by
    unfold extO at q
    split at q
    · rename_i ds hi
      obtain ⟨a, xs, h1, h2, n1, r1⟩ := ok.env.ow i ds hi
      refine ⟨_, h1, .inl ⟨rfl, xs, SqL.of h2⟩, outL q ok fun es b ys G1 H1 e1 hb rd ok1 q1 => ?_⟩
      split at q1
      · rename_i hl
        refine ⟨a, b, xs, ys, rfl, rfl, e1.hh _ _ h2, hb, by rw [r1.length, rd.length]; exact lineOk_le hl, ?_⟩
        exact q1 σ G1 _ (ok1.mut hi h1 ((r1.up e1.gg).append rd)) (.refl _) fun j hj => ⟨rfl, List.getElem?_set_ne (fun z => hj (by rw [z]; exact List.mem_singleton_self _))⟩
      · exact q1.elim
    · exact q.elim
end
end TD

/-! TdFor: what is walked; for, while, comprehensions; calls of defs, raise; the rule for a def. -/
namespace TD
open PySem PySem.Spec PyProof.Rows L2
/-! ### what is walked -/
/-- the walk gives these data, whatever settled heap it is in -/
structure Walk (K : PySem.W.Frag) (J : It) (G : Hp) (ds : List D) : Prop where
  go : ∀ (i : Nat) (d : D) (G2 H2 : Hp), ds[i]? = some d → Same G G2 → Same G2 H2 → J.go i H2
  yld : ∀ (i : Nat) (d : D) (x : V) (G2 H2 H3 : Hp), ds[i]? = some d → Same G G2 → Same G2 H2 → J.yld i H2 x H3 → ∃ G3, Ext G2 H2 G3 H3 ∧ Rp K G3 x d
  stop : ∀ (G2 H2 : Hp), Same G G2 → Same G2 H2 → J.stop ds.length H2
/-- the same, where all that is tracked stays -/
structure WalkH (K : PySem.W.Frag) (J : It) (G H : Hp) (ds : List D) : Prop where
  go : ∀ (i : Nat) (d : D) (G2 H2 : Hp), ds[i]? = some d → Ext G H G2 H2 → J.go i H2
  yld : ∀ (i : Nat) (d : D) (x : V) (G2 H2 H3 : Hp), ds[i]? = some d → Ext G H G2 H2 → J.yld i H2 x H3 → ∃ G3, Ext G2 H2 G3 H3 ∧ Rp K G3 x d
  stop : ∀ (G2 H2 : Hp), Ext G H G2 H2 → J.stop ds.length H2
theorem Walk.toH {K : PySem.W.Frag} {J : It} {G H : Hp} {ds : List D} (w : Walk K J G ds) : WalkH K J G H ds := ⟨fun i d G2 H2 h e => w.go i d G2 H2 h e.gg e.sub, fun i d x G2 H2 H3 h e => w.yld i d x G2 H2 H3 h e.gg e.sub, fun G2 H2 e => w.stop G2 H2 e.gg e.sub⟩
theorem walk_list {K : PySem.W.Frag} {G : Hp} {a : Addr} {xs : List V} {ds : List D} (h : G a = some (.lst xs)) (r : RpAll K G xs ds) : Walk K (Itl K a) G ds := by
  refine ⟨fun i d G2 H2 hd e1 e2 => ?_, fun i d x G2 H2 H3 hd e1 e2 hy => ?_, fun G2 H2 e1 e2 => ⟨xs, SqL.of (e2 _ _ (e1 _ _ h)), by rw [r.length]; exact Nat.le_refl _⟩⟩
  · obtain ⟨v, hv, _⟩ := r.get hd
    exact ⟨xs, v, SqL.of (e2 _ _ (e1 _ _ h)), hv⟩
  · obtain ⟨rfl, hx⟩ := hy
    obtain ⟨v, hv, rv⟩ := r.get hd
    have := hx xs (SqL.of (e2 _ _ (e1 _ _ h)))
    rw [hv] at this
    cases this
    exact ⟨G2, .refl e2, rv.up e1⟩
theorem walkH_list {K : PySem.W.Frag} {G H : Hp} {a : Addr} {xs : List V} {ds : List D} (h : H a = some (.lst xs)) (r : RpAll K G xs ds) : WalkH K (Itl K a) G H ds := by
  refine ⟨fun i d G2 H2 hd e => ?_, fun i d x G2 H2 H3 hd e hy => ?_, fun G2 H2 e => ⟨xs, SqL.of (e.hh _ _ h), by rw [r.length]; exact Nat.le_refl _⟩⟩
  · obtain ⟨v, hv, _⟩ := r.get hd
    exact ⟨xs, v, SqL.of (e.hh _ _ h), hv⟩
  · obtain ⟨rfl, hx⟩ := hy
    obtain ⟨v, hv, rv⟩ := r.get hd
    have := hx xs (SqL.of (e.hh _ _ h))
    rw [hv] at this
    cases this
    exact ⟨G2, .refl e.sub, rv.up e.gg⟩
theorem walk_tup {K : PySem.W.Frag} {G : Hp} {a : Addr} {xs : List V} {ds : List D} (h : SqT K G a xs) (r : RpAll K G xs ds) : Walk K (Itt K a) G ds := by
  refine ⟨fun i d G2 H2 hd e1 e2 => ?_, fun i d x G2 H2 H3 hd e1 e2 hy => ?_, fun G2 H2 e1 e2 => ⟨xs, TD.Same.seqT (e1.trans e2) h, by rw [r.length]; exact Nat.le_refl _⟩⟩
  · obtain ⟨v, hv, _⟩ := r.get hd
    exact ⟨xs, v, TD.Same.seqT (e1.trans e2) h, hv⟩
  · obtain ⟨rfl, hx⟩ := hy
    obtain ⟨v, hv, rv⟩ := r.get hd
    have := hx xs (TD.Same.seqT (e1.trans e2) h)
    rw [hv] at this
    cases this
    exact ⟨G2, .refl e2, rv.up e1⟩
def rngD (lo : Int) (n : Nat) : List D := (List.range n).map fun i => .int (lo + (i : Nat))
theorem rngD_get {lo : Int} {n i : Nat} {d : D} (h : (rngD lo n)[i]? = some d) : i < n ∧ d = .int (lo + (i : Nat)) := by
  unfold rngD at h
  rw [List.getElem?_map] at h
  cases e : (List.range n)[i]? with
  | none => rw [e] at h; cases h
  | some j =>
    rw [e] at h
    obtain ⟨h1, h2⟩ := List.getElem?_eq_some_iff.mp e
    rw [List.getElem_range] at h2
    subst h2
    rw [List.length_range] at h1
    cases h
    exact ⟨h1, rfl⟩
theorem rngD_len {lo : Int} {n : Nat} : (rngD lo n).length = n := by unfold rngD; rw [List.length_map, List.length_range]
theorem walk_rng {K : PySem.W.Frag} {G : Hp} {lo : Int} {n : Nat} : Walk K (Itr lo n) G (rngD lo n) := by
  refine ⟨fun i d G2 H2 hd e1 e2 => (rngD_get hd).1, fun i d x G2 H2 H3 hd e1 e2 hy => ?_, fun G2 H2 e1 e2 => by rw [rngD_len]; exact Nat.le_refl _⟩
  obtain ⟨rfl, rfl⟩ := hy
  obtain ⟨_, rfl⟩ := rngD_get hd
  exact ⟨G2, .refl e2, .int _⟩
def enumFrom (k : Nat) : List D → List D
  | [] => []
  | d :: r => .tuple [.int (k : Nat), d] :: enumFrom (k + 1) r
theorem enumFrom_len : ∀ (ds : List D) (k : Nat), (enumFrom k ds).length = ds.length
  | [], _ => rfl
  | d :: r, k => by unfold enumFrom; rw [List.length_cons, List.length_cons, enumFrom_len r]
theorem enumFrom_get : ∀ (ds : List D) (k i : Nat) (d : D), (enumFrom k ds)[i]? = some d → ∃ e, ds[i]? = some e ∧ d = .tuple [.int ((k + i : Nat) : Int), e]
  | [], _, _, _, h => by simp [enumFrom] at h
  | e :: r, k, 0, d, h => by simp [enumFrom] at h; exact ⟨e, rfl, by rw [← h]; simp⟩
  | e :: r, k, i + 1, d, h => by
    have h' : (enumFrom (k + 1) r)[i]? = some d := by simpa [enumFrom] using h
    obtain ⟨x, h1, h2⟩ := enumFrom_get r (k + 1) i d h'
    exact ⟨x, by simpa using h1, by rw [h2]; congr 3; omega⟩
theorem walk_enum {K : PySem.W.Frag} {G : Hp} {a : Addr} {xs : List V} {ds : List D} (h : G a = some (.lst xs)) (r : RpAll K G xs ds) : Walk K (Ite K a) G (enumFrom 0 ds) := by
  refine ⟨fun i d G2 H2 hd e1 e2 => ?_, fun i d x G2 H2 H3 hd e1 e2 hy => ?_, fun G2 H2 e1 e2 => ⟨xs, SqL.of (e2 _ _ (e1 _ _ h)), by rw [r.length, enumFrom_len]; exact Nat.le_refl _⟩⟩
  · obtain ⟨e, he, _⟩ := enumFrom_get ds 0 i d hd
    obtain ⟨v, hv, _⟩ := r.get he
    exact ⟨xs, v, SqL.of (e2 _ _ (e1 _ _ h)), hv⟩
  · obtain ⟨e, he, rfl⟩ := enumFrom_get ds 0 i d hd
    obtain ⟨T, y, rfl, hT, rfl, hy⟩ := hy
    obtain ⟨v, hv, rv⟩ := r.get he
    have := hy xs (SqL.of (e2 _ _ (e1 _ _ h)))
    rw [hv] at this
    cases this
    have ex := Ext.new (o := .tup [.int (i : Nat), y]) e2 hT
    rw [Nat.zero_add]
    exact ⟨_, ex, .tup (SqT.of upd_same) (.cons (.int _) (.one ((rv.up e1).up ex.gg)))⟩
def zipD : List D → List D → List D
  | a :: r, b :: s => .tuple [a, b] :: zipD r s
  | _, _ => []
theorem zipD_get : ∀ (as bs : List D) (i : Nat) (d : D), (zipD as bs)[i]? = some d → ∃ a b, as[i]? = some a ∧ bs[i]? = some b ∧ d = .tuple [a, b]
  | [], _, _, _, h => by simp [zipD] at h
  | _ :: _, [], _, _, h => by simp [zipD] at h
  | a :: r, b :: s, 0, d, h => by simp [zipD] at h; exact ⟨a, b, rfl, rfl, h.symm⟩
  | a :: r, b :: s, i + 1, d, h => by
    have h' : (zipD r s)[i]? = some d := by simpa [zipD] using h
    obtain ⟨x, y, h1, h2, h3⟩ := zipD_get r s i d h'
    exact ⟨x, y, by simpa using h1, by simpa using h2, h3⟩
theorem zipD_len : ∀ (as bs : List D), as.length ≤ (zipD as bs).length ∨ bs.length ≤ (zipD as bs).length
  | [], _ => .inl (Nat.zero_le _)
  | _ :: _, [] => .inr (Nat.zero_le _)
  | a :: r, b :: s => by
    unfold zipD
    rw [List.length_cons, List.length_cons, List.length_cons]
    rcases zipD_len r s with h | h
    · exact .inl (Nat.succ_le_succ h)
    · exact .inr (Nat.succ_le_succ h)
theorem walk_zip {K : PySem.W.Frag} {G : Hp} {a b : Addr} {xs ys : List V} {ds es : List D} (h : G a = some (.lst xs)) (h' : G b = some (.lst ys)) (r : RpAll K G xs ds) (r' : RpAll K G ys es) : Walk K (Itz K a b) G (zipD ds es) := by
  refine ⟨fun i d G2 H2 hd e1 e2 => ?_, fun i d x G2 H2 H3 hd e1 e2 hy => ?_, fun G2 H2 e1 e2 => ⟨xs, ys, SqL.of (e2 _ _ (e1 _ _ h)), SqL.of (e2 _ _ (e1 _ _ h')), by rw [r.length, r'.length]; exact zipD_len ds es⟩⟩
  · obtain ⟨x, y, hx, hy, _⟩ := zipD_get ds es i d hd
    obtain ⟨v, hv, _⟩ := r.get hx
    obtain ⟨u, hu, _⟩ := r'.get hy
    exact ⟨xs, ys, v, u, SqL.of (e2 _ _ (e1 _ _ h)), SqL.of (e2 _ _ (e1 _ _ h')), hv, hu⟩
  · obtain ⟨x, y, hx, hy', rfl⟩ := zipD_get ds es i d hd
    obtain ⟨T, p, q, rfl, hT, rfl, z1, z2⟩ := hy
    obtain ⟨v, hv, rv⟩ := r.get hx
    obtain ⟨u, hu, ru⟩ := r'.get hy'
    have t1 := z1 xs (SqL.of (e2 _ _ (e1 _ _ h)))
    have t2 := z2 ys (SqL.of (e2 _ _ (e1 _ _ h')))
    rw [hv] at t1
    rw [hu] at t2
    cases t1
    cases t2
    have ex := Ext.new (o := .tup [p, q]) e2 hT
    exact ⟨_, ex, .tup (SqT.of upd_same) (.cons ((rv.up e1).up ex.gg) (.one ((ru.up e1).up ex.gg)))⟩
theorem walk_zipT {K : PySem.W.Frag} {G : Hp} {a b : Addr} {xs ys : List V} {ds es : List D} (h : SqT K G a xs) (h' : SqT K G b ys) (r : RpAll K G xs ds) (r' : RpAll K G ys es) : Walk K (RZ.ItzT K a b) G (zipD ds es) := by
  refine ⟨fun i d G2 H2 hd e1 e2 => ?_, fun i d x G2 H2 H3 hd e1 e2 hy => ?_, fun G2 H2 e1 e2 => ⟨xs, ys, TD.Same.seqT (e1.trans e2) h, TD.Same.seqT (e1.trans e2) h', by rw [r.length, r'.length]; exact zipD_len ds es⟩⟩
  · obtain ⟨x, y, hx, hy, _⟩ := zipD_get ds es i d hd
    obtain ⟨v, hv, _⟩ := r.get hx
    obtain ⟨u, hu, _⟩ := r'.get hy
    exact ⟨xs, ys, v, u, TD.Same.seqT (e1.trans e2) h, TD.Same.seqT (e1.trans e2) h', hv, hu⟩
  · obtain ⟨x, y, hx, hy', rfl⟩ := zipD_get ds es i d hd
    obtain ⟨T, p, q, rfl, hT, rfl, z1, z2⟩ := hy
    obtain ⟨v, hv, rv⟩ := r.get hx
    obtain ⟨u, hu, ru⟩ := r'.get hy'
    have t1 := z1 xs (TD.Same.seqT (e1.trans e2) h)
    have t2 := z2 ys (TD.Same.seqT (e1.trans e2) h')
    rw [hv] at t1
    rw [hu] at t2
    cases t1
    cases t2
    have ex := Ext.new (o := .tup [p, q]) e2 hT
    exact ⟨_, ex, .tup (SqT.of upd_same) (.cons ((rv.up e1).up ex.gg) (.one ((ru.up e1).up ex.gg)))⟩

def PostI (K : PySem.W.Frag) (Wx : Str → Hp → Prop) (G H : Hp) (r : R (List D)) (Q : It → Hp → Prop) : Prop :=
  match r with
  | .ok ds => ∀ J G' H', Ext G H G' H' → Walk K J G' ds → Q J H'
  | .ex x => ∀ G' H', Ext G H G' H' → Wx x H'
  | .no => False
theorem PostI.fin {K : PySem.W.Frag} {Wx : Str → Hp → Prop} {Q : It → Hp → Prop} : Fin Wx (fun r G H => PostI K Wx G H r Q) := by
  refine ⟨fun r G H G1 H1 h e => ?_, fun _ _ _ h => h, fun _ _ h => h⟩
  cases r with
  | ok ds => exact fun J G' H' e' h1 => h J G' H' (e.trans e') h1
  | ex x => exact fun G' H' e' => h G' H' (e.trans e')
  | no => exact h
def PostJ (K : PySem.W.Frag) (Wx : Str → Hp → Prop) (G H : Hp) (r : R (List D)) (Q : It → Hp → Prop) : Prop :=
  match r with
  | .ok ds => ∀ J G' H', Ext G H G' H' → WalkH K J G' H' ds → Q J H'
  | .ex x => ∀ G' H', Ext G H G' H' → Wx x H'
  | .no => False
theorem PostJ.fin {K : PySem.W.Frag} {Wx : Str → Hp → Prop} {Q : It → Hp → Prop} : Fin Wx (fun r G H => PostJ K Wx G H r Q) := by
  refine ⟨fun r G H G1 H1 h e => ?_, fun _ _ _ h => h, fun _ _ h => h⟩
  cases r with
  | ok ds => exact fun J G' H' e' h1 => h J G' H' (e.trans e') h1
  | ex x => exact fun G' H' e' => h G' H' (e.trans e')
  | no => exact h
def tI (K : PySem.W.Frag) (mg : Str → Option Value) (W : WX) (f : EnvS → R (List D)) : TI := fun σ H Q => ∃ G ρ, Same G H ∧ EnvE K G H σ ρ ∧ PostI K (Wxo mg W σ) G H (f ρ) Q
def tJ (K : PySem.W.Frag) (mg : Str → Option Value) (W : WX) (f : EnvS → R (List D)) : TI := fun σ H Q => ∃ G ρ, Same G H ∧ EnvE K G H σ ρ ∧ PostJ K (Wxo mg W σ) G H (f ρ) Q
abbrev PID (X : Cx) (W : WX) (tg e : Expr) (f : EnvS → R (List D)) : Prop := PI X tg e (tI X.K X.mg W f)
abbrev PJD (X : Cx) (W : WX) (tg e : Expr) (f : EnvS → R (List D)) : Prop := PI X tg e (tJ X.K X.mg W f)
theorem _root_.L2.PI.wk {X : Cx} {tg e : Expr} {t t' : TI} (h : PI X tg e t) (w : ∀ σ H Q, t' σ H Q → t σ H Q) : PI X tg e t' := ⟨fun pins s σ H Q I q => h.run pins s σ H Q I (w σ H Q q)⟩
section
variable {X : Cx} {W : WX} {wr wr1 wr2 : List Nat} {pos : Pos} {tg e : Expr}
theorem j_of {f : EnvS → R (List D)} (h : PID X W tg e f) : PJD X W tg e f := L2.PI.wk h fun σ H Q ⟨G, ρ, hs, he, q⟩ => by
  refine ⟨G, ρ, hs, he, ?_⟩
  cases ef : f ρ with
  | ok ds => rw [ef] at q; exact fun J G' H' e w => q J G' H' e w.toH
  | ex x => rw [ef] at q; exact q
  | no => rw [ef] at q; exact q
def seqF (f : EnvS → R D) : EnvS → R (List D) := fun ρ => (f ρ).bind fun d => match d with
  | .list ds => .ok ds
  | .tuple ds => .ok ds
  | .str x => if lineOk x.length then .ok (x.cps.toList.map fun c => .str ⟨#[c]⟩) else .no
  | _ => .no
def iSeq (K : PySem.W.Frag) (te : TE) : TI := fun σ H R => te σ H fun v H1 => (∃ a, v = .ref a ∧ (∃ xs, SqL K H1 a xs) ∧ R (Itl K a) H1) ∨ (∃ a, v = .ref a ∧ (∃ xs, SqT K H1 a xs) ∧ R (Itt K a) H1) ∨ ∃ x, v = .str x ∧ R (Its x) H1
theorem pi_seq {te : TE} (h : PE X e te) : PI X tg e (iSeq X.K te) := by
  refine ⟨fun pins s σ H R I q => ?_⟩
  refine thn (h.run pins s σ H _ I q) fun v s1 ⟨x, H1, I1, r1, q1⟩ => ?_
  rcases q1 with ⟨a, rfl, ⟨xs, hq⟩, q⟩ | ⟨a, rfl, ⟨xs, hq⟩, q⟩ | ⟨x, rfl, q⟩
  · cases r1
    obtain ⟨its, rv, p, hz⟩ := I1.list hq
    refine wpAny_pyIter_list p.isList ?_
    refine ⟨s1.heap.objs.size, [s1.heap.objs.size], _, _, H1, rfl, I1.kept (t' := s1.toks) fun b o e => Heap.get?_push_of_some _ e, turn_list a _, ⟨_, Heap.get?_push_size _ rfl, rfl, rfl⟩, fun b hb => ?_, q⟩
    have e : b = s1.heap.objs.size := by simpa using hb
    subst e
    exact I1.fpOk (Nat.le_refl _) (I1.hok.fresh (Nat.le_refl _))
  · cases r1
    obtain ⟨its, rv, p, hz⟩ := I1.tuple hq
    refine wpAny_pyIter_tuple (show s1.heap.IsTuple a its.toArray from p) ?_
    refine ⟨s1.heap.objs.size, [s1.heap.objs.size], _, _, H1, rfl, I1.kept (t' := s1.toks) fun b o e => Heap.get?_push_of_some _ e, turn_tuple a _, ⟨_, Heap.get?_push_size _ rfl, rfl, rfl⟩, fun b hb => ?_, q⟩
    have e : b = s1.heap.objs.size := by simpa using hb
    subst e
    exact I1.fpOk (Nat.le_refl _) (I1.hok.fresh (Nat.le_refl _))
  · obtain ⟨t, rfl⟩ := r1
    cases ha : x.cps.all (· < 128)
    · exact wpAny_pyIter_wide ha (pi_one (tk := s1.toks) I1 _ (turn_str _ x t "str_iterator" (.inr rfl)) ⟨_, Heap.get?_push_size _ rfl, rfl, rfl⟩ q)
    · exact wpAny_pyIter_ascii ha (pi_one (tk := s1.toks) I1 _ (turn_str _ x t "str_ascii_iterator" (.inl rfl)) ⟨_, Heap.get?_push_size _ rfl, rfl, rfl⟩ q)
theorem walk_str {K : PySem.W.Frag} {G : Hp} {x : Str} : Walk K (Its x) G (x.cps.toList.map fun c => .str ⟨#[c]⟩) := by
  have key : ∀ (i : Nat) (d : D), (x.cps.toList.map fun c => (PyData.str ⟨#[c]⟩))[i]? = some d → ∃ c, x.cps[i]? = some c ∧ d = .str ⟨#[c]⟩ := fun i d h => by
    rw [List.getElem?_map] at h
    cases e : x.cps.toList[i]? with
    | none => rw [e] at h; cases h
    | some c => rw [e] at h; cases h; exact ⟨c, by rw [← Array.getElem?_toList]; exact e, rfl⟩
  refine ⟨fun i d G2 H2 hd e1 e2 => ?_, fun i d y G2 H2 H3 hd e1 e2 hy => ?_, fun G2 H2 e1 e2 => by show x.cps.size ≤ _; rw [List.length_map, Array.length_toList]; exact Nat.le_refl _⟩
  · obtain ⟨c, hc, _⟩ := key i d hd
    exact (Array.getElem?_eq_some_iff.mp hc).1
  · obtain ⟨rfl, c, hc, rfl⟩ := hy
    obtain ⟨c', hc', rfl⟩ := key i d hd
    rw [hc] at hc'
    cases hc'
    exact ⟨G2, .refl e2, .str _⟩
theorem i_seq {f : EnvS → R D} (h : PD X W e f) : PID X W tg e (seqF f) := (pi_seq h).wk fun σ H Q ⟨G, ρ, hs, he, q⟩ => by
  unfold seqF at q
  refine seqP PostI.fin q hs he fun a v G1 H1 _ e1 r1 he1 q1 => ?_
  cases a with
  | list ds =>
    obtain ⟨a, xs, rfl, h1, g1, p1⟩ := r1.seqL e1.sub
    exact .inl ⟨a, rfl, ⟨xs, SqL.of h1⟩, q1 _ G1 H1 (.refl e1.sub) (walk_list g1 p1)⟩
  | tuple ds =>
    obtain ⟨a, xs, rfl, h1, g1, p1⟩ := r1.seqT e1.sub
    exact .inr (.inl ⟨a, rfl, ⟨xs, h1⟩, q1 _ G1 H1 (.refl e1.sub) (walk_tup g1 p1)⟩)
  | str x =>
    cases r1
    dsimp only at q1
    split at q1
    · exact .inr (.inr ⟨x, rfl, q1 _ G1 H1 (.refl e1.sub) walk_str⟩)
    · exact q1.elim
  | _ => exact q1.elim
theorem j_lst {f : EnvS → R (List D)} (h : PDL X W e f) : PJD X W tg e f := (pi_list h).wk fun σ H Q ⟨G, ρ, hs, he, q⟩ => by
  refine ⟨G, ρ, hs, he, ?_⟩
  cases ef : f ρ with
  | ok ds =>
    rw [ef] at q
    exact fun a xs G1 H1 e1 h1 r1 => ⟨a, rfl, ⟨xs, SqL.of h1⟩, q _ G1 H1 e1 (walkH_list h1 r1)⟩
  | ex x => rw [ef] at q; exact q
  | no => rw [ef] at q; exact q
def rngOk (i : Int) : Bool := decide (-(2 ^ 62) ≤ i) && decide (i < 2 ^ 62)
def rng1F (f : EnvS → R D) : EnvS → R (List D) := fun ρ => (f ρ).bind fun d => match d with
  | .int i => if rngOk i then .ok (rngD 0 i.toNat) else .no
  | _ => .no
def rng2F (f g : EnvS → R D) : EnvS → R (List D) := fun ρ => (f ρ).bind fun d => (g ρ).bind fun d' => match d, d' with
  | .int i, .int j => if rngOk i && rngOk j then .ok (rngD i (j - i).toNat) else .no
  | _, _ => .no
theorem i_rng1 {a : Expr} {p : Pos} {f : EnvS → R D} (hm : X.mg "range" = none) (ha : PD X W a f) (hg : Gl X "range" := by rfl) (hs : starEach [a] X.env = (false, eval a X.env) :: starEach [] X.env := by rfl) : PID X W tg (.Call (.Name "range" p) [a] [] pos) (rng1F f) :=
  (pi_range1 hg hm (pa_cons ha pa_nil hs) hs).wk fun σ H Q ⟨G, ρ, hs, he, q⟩ => by
    unfold rng1F at q
    refine seqP PostI.fin q hs he fun a v G1 H1 _ e1 r1 he1 q1 => ?_
    cases a with
    | int i =>
      cases r1
      dsimp only at q1
      split at q1
      · rename_i h
        unfold rngOk at h
        rw [Bool.and_eq_true] at h
        exact ⟨i, rfl, of_decide_eq_true h.1, of_decide_eq_true h.2, q1 _ G1 H1 (.refl e1.sub) walk_rng⟩
      · exact q1.elim
    | _ => exact q1.elim
theorem i_rng2 {a b : Expr} {p : Pos} {f g : EnvS → R D} (hm : X.mg "range" = none) (ha : PD X W a f) (hb : PD X W b g) (hg : Gl X "range" := by rfl) (hs : starEach [a, b] X.env = [(false, eval a X.env), (false, eval b X.env)] := by rfl) (hs2 : starEach [b] X.env = [(false, eval b X.env)] := by rfl)
    (hs3 : starEach [a, b] X.env = (false, eval a X.env) :: starEach [b] X.env := by rfl) (hs4 : starEach [b] X.env = (false, eval b X.env) :: starEach [] X.env := by rfl) : PID X W tg (.Call (.Name "range" p) [a, b] [] pos) (rng2F f g) :=
  (pi_range2 hg hm (pa_cons ha (pa_cons hb pa_nil hs4) hs3) hs hs2).wk fun σ H Q ⟨G, ρ, hs, he, q⟩ => by
    unfold rng2F at q
    refine seqP PostI.fin q hs he fun a v G1 H1 _ e1 r1 he1 q1 => ?_
    refine seqP PostI.fin q1 e1.sub he1 fun b u G2 H2 _ e2 r2 he2 q2 => ?_
    cases a with
    | int i =>
      cases b with
      | int j =>
        cases r1; cases r2
        dsimp only at q2
        split at q2
        · rename_i h
          unfold rngOk at h
          simp only [Bool.and_eq_true, decide_eq_true_eq] at h
          exact ⟨i, j, rfl, ⟨h.1.1, h.1.2, h.2.1, h.2.2⟩, q2 _ G2 H2 (.refl e2.sub) walk_rng⟩
        · exact q2.elim
      | _ => exact q2.elim
    | _ => exact q2.elim
def enuF (f : EnvS → R D) : EnvS → R (List D) := fun ρ => (f ρ).bind fun d => match d with
  | .list ds => .ok (enumFrom 0 ds)
  | _ => .no
theorem i_enum {a : Expr} {p tpos : Pos} {elts : List Expr} {kk : Nat} {f : EnvS → R D} (hm : X.mg "enumerate" = none) (ha : PD X W a f) (hg : Gl X "enumerate" := by rfl) (hs : starEach [a] X.env = (false, eval a X.env) :: starEach [] X.env := by rfl) : PID X W (.Tuple elts kk tpos) (.Call (.Name "enumerate" p) [a] [] pos) (enuF f) :=
  (pi_enum hg hm (pa_cons ha pa_nil hs) hs).wk fun σ H Q ⟨G, ρ, hs, he, q⟩ => by
    unfold enuF at q
    refine seqP PostI.fin q hs he fun a v G1 H1 _ e1 r1 he1 q1 => ?_
    cases a with
    | list ds =>
      obtain ⟨a, xs, rfl, h1, g1, p1⟩ := r1.seqL e1.sub
      exact ⟨a, xs, rfl, SqL.of h1, q1 _ G1 H1 (.refl e1.sub) (walk_enum g1 p1)⟩
    | _ => exact q1.elim
def zipF (f g : EnvS → R D) : EnvS → R (List D) := fun ρ => (f ρ).bind fun d => (g ρ).bind fun d' => match d, d' with
  | .list ds, .list es => .ok (zipD ds es)
  | .tuple ds, .tuple es => .ok (zipD ds es)
  | _, _ => .no
theorem i_zip {a b : Expr} {p tpos : Pos} {elts : List Expr} {kk : Nat} {f g : EnvS → R D} (hm : X.mg "zip" = none) (ha : PD X W a f) (hb : PD X W b g) (hg : Gl X "zip" := by rfl)
    (hs3 : starEach [a, b] X.env = (false, eval a X.env) :: starEach [b] X.env := by rfl) (hs4 : starEach [b] X.env = (false, eval b X.env) :: starEach [] X.env := by rfl) (hpl : (backTo pos (starEach [b] X.env)).any (·.1) = false := by rfl) : PID X W (.Tuple elts kk tpos) (.Call (.Name "zip" p) [a, b] [] pos) (zipF f g) :=
  (RZ.pi_zipA hg hm (pa_cons ha (pa_cons hb pa_nil hs4) hs3) hs3 hpl).wk fun σ H Q ⟨G, ρ, hs, he, q⟩ => by
    unfold zipF at q
    refine seqP PostI.fin q hs he fun a v G1 H1 _ e1 r1 he1 q1 => ?_
    refine seqP PostI.fin q1 e1.sub he1 fun b u G2 H2 _ e2 r2 he2 q2 => ?_
    have r1 := Rp.up r1 e2.gg
    cases a with
    | list ds =>
      cases b with
      | list es =>
        obtain ⟨a, xs, rfl, h1, g1, p1⟩ := r1.seqL e2.sub
        obtain ⟨b, ys, rfl, h2, g2, p2⟩ := r2.seqL e2.sub
        exact ⟨a, b, xs, ys, rfl, .inl ⟨SqL.of h1, SqL.of h2, q2 _ G2 H2 (.refl e2.sub) (walk_zip g1 g2 p1 p2)⟩⟩
      | _ => exact q2.elim
    | tuple ds =>
      cases b with
      | tuple es =>
        obtain ⟨a, xs, rfl, h1, g1, p1⟩ := r1.seqT e2.sub
        obtain ⟨b, ys, rfl, h2, g2, p2⟩ := r2.seqT e2.sub
        exact ⟨a, b, xs, ys, rfl, .inr ⟨h1, h2, q2 _ G2 H2 (.refl e2.sub) (walk_zipT g1 g2 p1 p2)⟩⟩
      | _ => exact q2.elim
    | _ => exact q2.elim
end
end TD

/-! TdDef: for, while, comprehensions; calls of defs, raise; the rule for a def. -/
namespace TD
open PySem PySem.Spec PyProof.Rows L2
/-! ### for -/
def forO (h : D → EnvS → R EnvS) (gb : EnvS → Out) : List D → EnvS → Out
  | [], ρ => .nx ρ
  | d :: ds, ρ => match h d ρ with
    | .ok ρ1 => match gb ρ1 with
      | .nx ρ2 => forO h gb ds ρ2
      | .ct ρ2 => forO h gb ds ρ2
      | .bk ρ2 => .nx ρ2
      | .rt d => .rt d
      | .ex x ρ2 => .ex x ρ2
      | .no => .no
    | _ => .no
def loO (f : EnvS → R (List D)) (h : D → EnvS → R EnvS) (gb : EnvS → Out) : EnvS → Out := fun ρ => (f ρ).out ρ fun ds => forO h gb ds ρ
section
variable {X : Cx} {W : WX} {wr wr1 wr2 : List Nat} {pos : Pos}
theorem s_for {tg it : Expr} {body : List Stmt} {f : EnvS → R (List D)} {h : D → EnvS → R EnvS} {gb : EnvS → Out} (hp : PassesOwn (model X.prog X.w) X.A X.env X.xe) (hi : PID X W tg it f) (hg : PGD X wr1 tg h) (hb : PSsD X W wr2 body gb) (hc : X.calm = true := by rfl)
    (hs : ∀ x, foldedSetIterable it X.env x = pure x := by intro _; rfl) : PSD X W (wr1 ++ wr2) (.For tg it body [] pos) (loO f h gb) := (ps_for hp hc hi hg hb hs).wk fun Dd σ H ⟨G0, H0, G, ρ, ok, q⟩ => by
  unfold loO at q
  refine ⟨G, ρ, ok.ext.sub, ok.env, ?_⟩
  cases ef : f ρ with
  | ex x =>
    rw [ef] at q
    exact fun G1 H1 e1 cc m => q cc σ G1 H1 m (ok.step e1) e1.gg .refl
  | no => rw [ef] at q; exact q.elim
  | ok ds =>
    rw [ef] at q
    intro J G1 H1 e1 w
    have q : PostS X.K X.mg W G0 H0 (wr1 ++ wr2) σ ρ G1 (forO h gb ds ρ) Dd := PostS.later q (fun _ h => h) e1.gg .refl
    let Wv : Nat → L2.St → Hp → Prop := fun i σ' H' => ∃ G' ρ', StOk X.K G0 H0 G' H' σ' ρ' ∧ Same G1 G' ∧ Fr (wr1 ++ wr2) σ ρ σ' ρ' ∧ PostS X.K X.mg W G0 H0 (wr1 ++ wr2) σ' ρ' G' (forO h gb (ds.drop i) ρ') Dd
    refine ⟨fun i m σ' H' => m = ds.length - i ∧ i ≤ ds.length ∧ Wv i σ' H', ⟨ds.length, by omega, Nat.zero_le _, G1, ρ, ok.step e1, .refl _, .refl, q⟩, ?_⟩
    rintro i m σ' H' ⟨rfl, hi, G', ρ', ok', s', fr', q'⟩
    by_cases hlt : i < ds.length
    · have hd : ds[i]? = some ds[i] := List.getElem?_eq_getElem hlt
      refine .inr ⟨w.go i _ G' H' hd s' ok'.ext.sub, Wv (i + 1), fun σ2 H2 p2 => ⟨ds.length - (i + 1), by omega, rfl, hlt, p2⟩, fun x H3 hy => ?_⟩
      obtain ⟨G3, e3, r3⟩ := w.yld i _ x G' H' H3 hd s' ok'.ext.sub hy
      have hdr : ds.drop i = ds[i] :: ds.drop (i + 1) := List.drop_eq_getElem_cons hlt
      rw [hdr] at q'
      unfold forO at q'
      cases eh : h ds[i] ρ' with
      | ex x => rw [eh] at q'; exact q'.elim
      | no => rw [eh] at q'; exact q'.elim
      | ok ρ1 =>
        rw [eh] at q'
        dsimp only at q'
        have ok3 := ok'.step e3
        refine ⟨G3, ρ', ds[i], e3.sub, ok3.len, ok3.env, r3, ρ1, eh, fun σ1 p1 => ?_⟩
        refine ⟨G0, H0, G3, ρ1, ok3.puts p1, ?_⟩
        have f1 : Fr (wr1 ++ wr2) σ' ρ' σ1 ρ1 := p1.fr.mono fun i h => List.mem_append_left _ h
        have m2 : ∀ {σ2 ρ2}, Fr wr2 σ1 ρ1 σ2 ρ2 → Fr (wr1 ++ wr2) σ' ρ' σ2 ρ2 := fun h => f1.trans (h.mono fun i h => List.mem_append_right _ h)
        cases eg : gb ρ1 with
        | nx ρ2 =>
          rw [eg] at q'
          exact fun σ2 G2 H2 o2 s2 f2 => ⟨G2, ρ2, o2, (s'.trans e3.gg).trans s2, fr'.trans (m2 f2), PostS.later q' (fun _ h => h) (e3.gg.trans s2) (m2 f2)⟩
        | ct ρ2 =>
          rw [eg] at q'
          exact fun σ2 G2 H2 o2 s2 f2 => ⟨G2, ρ2, o2, (s'.trans e3.gg).trans s2, fr'.trans (m2 f2), PostS.later q' (fun _ h => h) (e3.gg.trans s2) (m2 f2)⟩
        | bk ρ2 =>
          rw [eg] at q'
          exact fun σ2 G2 H2 o2 s2 f2 => q' σ2 G2 H2 o2 (e3.gg.trans s2) (m2 f2)
        | rt d => rw [eg] at q'; exact q'
        | ex x ρ2 =>
          rw [eg] at q'
          exact fun cc σ2 G2 H2 mm o2 s2 f2 => q' cc σ2 G2 H2 mm o2 (e3.gg.trans s2) (m2 f2)
        | no => rw [eg] at q'; exact q'
    · have e : i = ds.length := by omega
      subst e
      rw [List.drop_length] at q'
      exact .inl ⟨w.stop G' H' s' ok'.ext.sub, q' σ' G' H' ok' (.refl _) .refl⟩
/-- over one's own list, which the body leaves as it is -/
theorem s_forOwn (k : Nat) {tg : Expr} {x : Str} {p : Pos} {body : List Stmt} {h : D → EnvS → R EnvS} {gb : EnvS → Out} (hp : PassesOwn (model X.prog X.w) X.A X.env X.xe) (hg : PGD X wr1 tg h) (hb : PSsD X W wr2 body gb) (hk : k ∉ wr1 ++ wr2 := by decide) (hc : X.calm = true := by rfl)
    (hN : X.N[k]? = some x := by rfl) (hv : Vis X.env.scope x := by first | exact Or.inl rfl | exact Or.inr (Or.inl rfl) | exact Or.inr (Or.inr rfl)) (hd : (x == ("__debug__" : Str)) = false := by decide)
    (hcd : (x == ("__classdict__" : Str)) = false := by decide)
    (hs : ∀ v, foldedSetIterable (.Name x p) X.env v = pure v := by intro _; rfl) : PSD X W (wr1 ++ wr2) (.For tg (.Name x p) body [] pos) (loO (ownD k) h gb) := (ps_for hp hc (pi_list (pe_var hN hv hd hcd)) hg hb hs).wk fun Dd σ H ⟨G0, H0, G, ρ, ok, q⟩ => by
  unfold loO ownD at q
  cases e : ρ[k]? with
  | none => simp only [e] at q; exact q.elim
  | some o =>
    cases o with
    | none => simp only [e] at q; exact q.elim
    | some d =>
      cases d with
      | pu d => simp only [e] at q; exact q.elim
      | ow ds =>
        simp only [e] at q
        have q : PostS X.K X.mg W G0 H0 (wr1 ++ wr2) σ ρ G (forO h gb ds ρ) Dd := q
        obtain ⟨a, xs, hsk, ha, na, ra⟩ := ok.env.ow k ds e
        refine ⟨_, hsk, a, rfl, ⟨xs, SqL.of ha⟩, ?_⟩
        let Wv : Nat → L2.St → Hp → Prop := fun i σ' H' => ∃ G' ρ', StOk X.K G0 H0 G' H' σ' ρ' ∧ Same G G' ∧ Fr (wr1 ++ wr2) σ ρ σ' ρ' ∧ PostS X.K X.mg W G0 H0 (wr1 ++ wr2) σ' ρ' G' (forO h gb (ds.drop i) ρ') Dd
        refine ⟨fun i m σ' H' => m = ds.length - i ∧ i ≤ ds.length ∧ Wv i σ' H', ⟨ds.length, by omega, Nat.zero_le _, G, ρ, ok, .refl _, .refl, q⟩, ?_⟩
        rintro i m σ' H' ⟨rfl, hi, G', ρ', ok', s', fr', q'⟩
        have ek : ρ'[k]? = some (some (.ow ds)) := (fr' k hk).2.trans e
        obtain ⟨a', ys, hsk', ha', na', ra'⟩ := ok'.env.ow k ds ek
        have ea : a' = a := by
          have := (fr' k hk).1.trans hsk
          rw [hsk'] at this
          cases this
          rfl
        subst ea
        by_cases hlt : i < ds.length
        · have hd : ds[i]? = some ds[i] := List.getElem?_eq_getElem hlt
          obtain ⟨v, hv, rv⟩ := ra'.get hd
          refine .inr ⟨⟨ys, v, SqL.of ha', hv⟩, Wv (i + 1), fun σ2 H2 p2 => ⟨ds.length - (i + 1), by omega, rfl, hlt, p2⟩, fun x H3 hy => ?_⟩
          obtain ⟨rfl, hx⟩ := hy
          have hx := hx ys (SqL.of ha')
          rw [hv] at hx
          cases hx
          have hdr : ds.drop i = ds[i] :: ds.drop (i + 1) := List.drop_eq_getElem_cons hlt
          rw [hdr] at q'
          unfold forO at q'
          cases eh : h ds[i] ρ' with
          | ex x => rw [eh] at q'; exact q'.elim
          | no => rw [eh] at q'; exact q'.elim
          | ok ρ1 =>
            rw [eh] at q'
            dsimp only at q'
            refine ⟨G', ρ', ds[i], ok'.ext.sub, ok'.len, ok'.env, rv, ρ1, eh, fun σ1 p1 => ?_⟩
            refine ⟨G0, H0, G', ρ1, ok'.puts p1, ?_⟩
            have f1 : Fr (wr1 ++ wr2) σ' ρ' σ1 ρ1 := p1.fr.mono fun i h => List.mem_append_left _ h
            have m2 : ∀ {σ2 ρ2}, Fr wr2 σ1 ρ1 σ2 ρ2 → Fr (wr1 ++ wr2) σ' ρ' σ2 ρ2 := fun h => f1.trans (h.mono fun i h => List.mem_append_right _ h)
            cases eg : gb ρ1 with
            | nx ρ2 =>
              rw [eg] at q'
              exact fun σ2 G2 H2 o2 s2 f2 => ⟨G2, ρ2, o2, s'.trans s2, fr'.trans (m2 f2), PostS.later q' (fun _ h => h) s2 (m2 f2)⟩
            | ct ρ2 =>
              rw [eg] at q'
              exact fun σ2 G2 H2 o2 s2 f2 => ⟨G2, ρ2, o2, s'.trans s2, fr'.trans (m2 f2), PostS.later q' (fun _ h => h) s2 (m2 f2)⟩
            | bk ρ2 =>
              rw [eg] at q'
              exact fun σ2 G2 H2 o2 s2 f2 => q' σ2 G2 H2 o2 s2 (m2 f2)
            | rt d => rw [eg] at q'; exact q'
            | ex x ρ2 =>
              rw [eg] at q'
              exact fun cc σ2 G2 H2 mm o2 s2 f2 => q' cc σ2 G2 H2 mm o2 s2 (m2 f2)
            | no => rw [eg] at q'; exact q'
        · have ei : i = ds.length := by omega
          subst ei
          rw [List.drop_length] at q'
          exact .inl ⟨⟨ys, SqL.of ha', by rw [ra'.length]; exact Nat.le_refl _⟩, q' σ' G' H' ok' (.refl _) .refl⟩
end
/-! ### while -/
def whO (c : EnvS → R Bool) (gb : EnvS → Out) : Nat → EnvS → Out
  | 0, _ => .no
  | n + 1, ρ => (c ρ).out ρ fun b => if b = true then (match gb ρ with
      | .nx ρ2 => whO c gb n ρ2
      | .ct ρ2 => whO c gb n ρ2
      | .bk ρ2 => .nx ρ2
      | .rt d => .rt d
      | .ex x ρ2 => .ex x ρ2
      | .no => .no) else .nx ρ
theorem whO_more (c : EnvS → R Bool) (gb : EnvS → Out) : ∀ (n : Nat) (ρ : EnvS), whO c gb n ρ ≠ .no → whO c gb (n + 1) ρ = whO c gb n ρ
  | 0, ρ, h => absurd rfl h
  | n + 1, ρ, h => by
    have step : ∀ m, whO c gb (m + 1) ρ = (c ρ).out ρ fun b => if b = true then (match gb ρ with
      | .nx ρ2 => whO c gb m ρ2
      | .ct ρ2 => whO c gb m ρ2
      | .bk ρ2 => .nx ρ2
      | .rt d => .rt d
      | .ex x ρ2 => .ex x ρ2
      | .no => .no) else .nx ρ := fun m => rfl
    rw [step n] at h
    rw [step (n + 1), step n]
    cases e : c ρ with
    | ok b =>
      rw [e] at h
      cases b with
      | true =>
        simp only [R.out, if_true] at h ⊢
        cases eg : gb ρ with
        | nx ρ2 => rw [eg] at h; exact whO_more c gb n ρ2 h
        | ct ρ2 => rw [eg] at h; exact whO_more c gb n ρ2 h
        | _ => rfl
      | false => rfl
    | ex x => rfl
    | no => rfl
theorem whO_plus {c : EnvS → R Bool} {gb : EnvS → Out} {n : Nat} {ρ : EnvS} (h : whO c gb n ρ ≠ .no) : ∀ k, whO c gb (n + k) ρ = whO c gb n ρ
  | 0 => rfl
  | k + 1 => by
    have := whO_plus h k
    rw [← Nat.add_assoc, whO_more c gb (n + k) ρ (by rw [this]; exact h), this]
noncomputable def whX (c : EnvS → R Bool) (gb : EnvS → Out) : EnvS → Out := fun ρ =>
  open Classical in if h : ∃ n, whO c gb n ρ ≠ .no then whO c gb (Classical.choose h) ρ else .no
theorem whX_eq {c : EnvS → R Bool} {gb : EnvS → Out} {ρ : EnvS} {o : Out} (n : Nat) (h : whO c gb n ρ = o) (ho : o ≠ .no) : whX c gb ρ = o := by
  have ex : ∃ n, whO c gb n ρ ≠ .no := ⟨n, by rw [h]; exact ho⟩
  unfold whX
  rw [dif_pos ex]
  have hc := Classical.choose_spec ex
  have hn : whO c gb n ρ ≠ .no := by rw [h]; exact ho
  have e1 := whO_plus hc n
  have e2 := whO_plus hn (Classical.choose ex)
  rw [Nat.add_comm] at e1
  rw [← e1, e2, h]
section
variable {X : Cx} {W : WX} {wr : List Nat} {pos : Pos}
theorem s_while {c : Expr} {body : List Stmt} {t : EnvS → R Bool} {gb : EnvS → Out} (hp : PassesOwn (model X.prog X.w) X.A X.env X.xe) (hc : PTD X W c t) (hb : PSsD X W wr body gb) : PSD X W wr (.While c body [] pos) (whX t gb) := (ps_while hp hc hb).wk fun Dd σ H ⟨G0, H0, G, ρ, ok, q⟩ => by
  unfold whX at q
  split at q
  · rename_i ex
    generalize Classical.choose ex = n at q
    refine ⟨fun m σ' H' => ∃ G' ρ', StOk X.K G0 H0 G' H' σ' ρ' ∧ Same G G' ∧ Fr wr σ ρ σ' ρ' ∧ PostS X.K X.mg W G0 H0 wr σ' ρ' G' (whO t gb m ρ') Dd, ⟨n, G, ρ, ok, .refl _, .refl, q⟩, ?_⟩
    rintro m σ' H' ⟨G', ρ', ok', s', fr', q'⟩
    cases m with
    | zero => exact q'.elim
    | succ m =>
      unfold whO at q'
      refine outE q' ok' fun b v G1 H1 _ e1 r1 ok1 q1 => ?_
      cases r1
      cases b with
      | true =>
        simp only [if_true] at q1
        refine ⟨fun σ2 H2 => ∃ G2 ρ2, StOk X.K G0 H0 G2 H2 σ2 ρ2 ∧ Same G G2 ∧ Fr wr σ ρ σ2 ρ2 ∧ PostS X.K X.mg W G0 H0 wr σ2 ρ2 G2 (whO t gb m ρ2) Dd, fun σ2 H2 p => ⟨m, Nat.lt_succ_self m, p⟩, ?_⟩
        refine ⟨G0, H0, G1, ρ', ok1, ?_⟩
        cases eg : gb ρ' with
        | nx ρ2 =>
          rw [eg] at q1
          exact fun σ2 G2 H2 o2 s2 f2 => ⟨G2, ρ2, o2, (s'.trans e1.gg).trans s2, fr'.trans f2, PostS.later q1 (fun _ h => h) s2 f2⟩
        | ct ρ2 =>
          rw [eg] at q1
          exact fun σ2 G2 H2 o2 s2 f2 => ⟨G2, ρ2, o2, (s'.trans e1.gg).trans s2, fr'.trans f2, PostS.later q1 (fun _ h => h) s2 f2⟩
        | bk ρ2 => rw [eg] at q1; exact fun σ2 G2 H2 o2 s2 f2 => q1 σ2 G2 H2 o2 s2 f2
        | rt d => rw [eg] at q1; exact q1
        | ex x ρ2 => rw [eg] at q1; exact fun cc σ2 G2 H2 mm o2 s2 f2 => q1 cc σ2 G2 H2 mm o2 s2 f2
        | no => rw [eg] at q1; exact q1
      | false => exact q1 σ' G1 H1 ok1 (.refl _) .refl
  · exact q.elim
end
/-! ### comprehensions -/
def wipeS (ρ : EnvS) : List Nat → EnvS
  | [] => ρ
  | v :: vs => (wipeS ρ vs).set v none
def compO (h : D → EnvS → R EnvS) (t : EnvS → R Bool) (fe : EnvS → R D) : List D → EnvS → R (List D)
  | [], _ => .ok []
  | d :: ds, ρ => match h d ρ with
    | .ok ρ1 => match t ρ1 with
      | .ok true => match fe ρ1 with
        | .ok y => match compO h t fe ds ρ with
          | .ok ys => .ok (y :: ys)
          | _ => .no
        | _ => .no
      | .ok false => compO h t fe ds ρ
      | _ => .no
    | _ => .no
def lcF (f : EnvS → R (List D)) (h : D → EnvS → R EnvS) (t : EnvS → R Bool) (fe : EnvS → R D) (vs : List Nat) : EnvS → R (List D) := fun ρ => (f ρ).bind fun ds => if lineOk ds.length then compO h t fe ds (wipeS ρ vs) else .no
abbrev W0 : WX := fun _ _ _ _ => False
theorem wipe_env {K : PySem.W.Frag} {G H : Hp} {σ : L2.St} {ρ : EnvS} (he : EnvE K G H σ ρ) : ∀ vs : List Nat, EnvE K G H (wipe σ vs) (wipeS ρ vs)
  | [] => he
  | v :: vs => by
    have ih := wipe_env he vs
    unfold wipe wipeS
    refine ⟨fun i d h => ?_, fun i ds h => ?_, by rw [List.length_set, List.length_set]; exact ih.len⟩
    · rcases get_set h with ⟨_, e, _⟩ | ⟨hj, h⟩
      · cases e
      · rw [List.getElem?_set_ne (Ne.symm hj)]; exact ih.pu i d h
    · rcases get_set h with ⟨_, e, _⟩ | ⟨hj, h⟩
      · cases e
      · rw [List.getElem?_set_ne (Ne.symm hj)]; exact ih.ow i ds h
theorem wipe_get {σ : L2.St} {i : Nat} : ∀ {vs : List Nat}, i ∉ vs → (wipe σ vs)[i]? = σ[i]?
  | [], _ => rfl
  | v :: vs, h => by
    have h1 : i ≠ v := fun e => h (by rw [e]; exact List.mem_cons_self)
    have h2 : i ∉ vs := fun e => h (List.mem_cons_of_mem _ e)
    unfold wipe
    rw [List.getElem?_set_ne (Ne.symm h1), wipe_get h2]
theorem wipe_in {σ : L2.St} {i : Nat} : ∀ {vs : List Nat}, i ∈ vs → i < σ.length → (wipe σ vs)[i]? = some none
  | v :: vs, h, hl => by
    unfold wipe
    by_cases e : v = i
    · subst e
      exact List.getElem?_set_self (by rw [wipe_length]; exact hl)
    · rw [List.getElem?_set_ne e]
      refine wipe_in ?_ hl
      rcases List.mem_cons.mp h with z | z
      · exact absurd z.symm e
      · exact z
theorem wipe_wipe {σ σ2 : L2.St} {vs : List Nat} (hl : σ2.length = σ.length) (h : ∀ i, i ∉ vs → σ2[i]? = (wipe σ vs)[i]?) : wipe σ2 vs = wipe σ vs := by
  apply List.ext_getElem?
  intro i
  by_cases hi : i ∈ vs
  · by_cases hlt : i < σ.length
    · rw [wipe_in hi hlt, wipe_in hi (by rw [hl]; exact hlt)]
    · rw [List.getElem?_eq_none (by rw [wipe_length]; omega), List.getElem?_eq_none (by rw [wipe_length]; omega)]
  · rw [wipe_get hi, h i hi]
theorem tLc_of {X : Cx} {W : WX} {f : EnvS → R (List D)} {wr vs : List Nat} {h : D → EnvS → R EnvS} {t : EnvS → R Bool} {fe : EnvS → R D} (hwr : ∀ i, i ∈ wr → i ∈ vs) {σ : L2.St} {H : Hp} {Q : VK}
    (q : tN X.K X.mg W (lcF f h t fe vs) σ H Q) : tLc (tJ X.K X.mg W f) (tG X.K wr h) (tD X.K X.mg W0 rpB t) (tD X.K X.mg W0 (rpE X.K) fe) vs σ H Q := by
  obtain ⟨G, ρ, hs, he, q⟩ := q
  unfold lcF at q
  refine ⟨G, ρ, hs, he, ?_⟩
  cases ef : f ρ with
  | ex x => rw [ef] at q; exact q
  | no => rw [ef] at q; exact q
  | ok ds =>
    rw [ef] at q
    dsimp only [R.bind] at q
    split at q
    · rename_i hline
      intro J G1 H1 e1 w L hL
      have he1 := he.up e1
      have q := PostN.fin.later _ _ _ _ _ q e1
      have nG1 : G1 L = none := e1.sub.free hL
      cases ec : compO h t fe ds (wipeS ρ vs) with
      | ex x => 
        exact absurd ec (by
          have : ∀ ds : List D, compO h t fe ds (wipeS ρ vs) ≠ .ex x := by
            intro ds
            induction ds with
            | nil => intro z; cases z
            | cons d r ih =>
              unfold compO
              intro z
              split at z
              · split at z
                · split at z
                  · split at z <;> cases z
                  · cases z
                · exact ih z
                · cases z
              · cases z
          exact this ds)
      | no => rw [ec] at q; exact q.elim
      | ok all =>
        rw [ec] at q
        have q : ∀ q' xs G' H', Ext G1 H1 G' H' → H1 q' = none → G' q' = none → H' q' = some (.lst xs) → RpAll X.K G' xs all → Q (.ref q') H' := q
        let Wv : Nat → Hp → Prop := fun i H' => ∃ G' acc as rest, Ext G1 H1 G' H' ∧ G' L = none ∧ H' L = some (.lst acc) ∧ RpAll X.K G' acc as ∧ acc.length ≤ i ∧ compO h t fe (ds.drop i) (wipeS ρ vs) = .ok rest ∧ all = as ++ rest
        refine ⟨fun i m H' => m = ds.length - i ∧ i ≤ ds.length ∧ Wv i H', ⟨ds.length, by omega, Nat.zero_le _, G1, [], [], all, Ext.newH e1.sub hL, nG1, upd_same, .nil, Nat.le_refl _, ec, rfl⟩, ?_⟩
        rintro i m H' ⟨rfl, hi, G', acc, as, rest, e', nG', hL', ra, hacc, ec', eall⟩
        by_cases hlt : i < ds.length
        · have hd : ds[i]? = some ds[i] := List.getElem?_eq_getElem hlt
          refine .inr ⟨w.go i _ G' H' hd e', Wv (i + 1), fun H2 p2 => ⟨ds.length - (i + 1), by omega, rfl, hlt, p2⟩, fun x H3 hy => ?_⟩
          obtain ⟨G3, e3, r3⟩ := w.yld i _ x G' H' H3 hd e' hy
          have hdr : ds.drop i = ds[i] :: ds.drop (i + 1) := List.drop_eq_getElem_cons hlt
          rw [hdr] at ec'
          unfold compO at ec'
          have e13 := e'.trans e3
          have env3 := wipe_env (he1.up e13) vs
          have nL : ∀ {Ga Ha Gb Hb : Hp}, Ext Ga Ha Gb Hb → Ga L = none → Ha L = some (.lst acc) → Gb L = none ∧ Hb L = some (.lst acc) := fun {Ga Ha Gb Hb} ee z1 z2 => by
            refine ⟨?_, ee.hh _ _ z2⟩
            by_cases z : Gb L = none
            · exact z
            · rw [ee.fr L z1 z] at z2; cases z2
          obtain ⟨n3, h3⟩ := nL e3 nG' hL'
          cases eh : h ds[i] (wipeS ρ vs) with
          | ex x => rw [eh] at ec'; cases ec'
          | no => rw [eh] at ec'; cases ec'
          | ok ρ1 =>
            rw [eh] at ec'
            dsimp only at ec'
            refine ⟨G3, wipeS ρ vs, ds[i], e3.sub, env3.len, env3, r3, ρ1, eh, fun σ1 p1 => ⟨wipe_wipe (by rw [p1.len', wipe_length]) fun j hj => (p1.fr j fun z => hj (hwr j z)).1, ?_⟩⟩
            cases et : t ρ1 with
            | ex x => rw [et] at ec'; cases ec'
            | no => rw [et] at ec'; cases ec'
            | ok b =>
              rw [et] at ec'
              refine ⟨G3, ρ1, e3.sub, p1.env, ?_⟩
              rw [et]
              intro v G4 H4 e4 rv
              cases rv
              obtain ⟨n4, h4⟩ := nL e4 n3 h3
              cases b with
              | true =>
                dsimp only at ec'
                rw [if_pos rfl]
                refine ⟨G4, ρ1, e4.sub, p1.env.up e4, ?_⟩
                cases ee : fe ρ1 with
                | ex x => rw [ee] at ec'; cases ec'
                | no => rw [ee] at ec'; cases ec'
                | ok y =>
                  rw [ee] at ec'
                  intro v G5 H5 e5 r5
                  obtain ⟨n5, h5⟩ := nL e5 n4 h4
                  have e15 := (e13.trans e4).trans e5
                  cases er : compO h t fe (ds.drop (i + 1)) (wipeS ρ vs) with
                  | ex x => rw [er] at ec'; cases ec'
                  | no => rw [er] at ec'; cases ec'
                  | ok ys =>
                    rw [er] at ec'
                    cases ec'
                    refine ⟨acc, h5, Nat.lt_of_le_of_lt hacc (Nat.lt_of_lt_of_le hlt (lineOk_le hline)), G5, acc ++ [v], as ++ [y], ys, ⟨fun b o hb => ?_, fun b o hb => ?_, e15.gg, e15.fr⟩, n5, upd_same, (ra.up ((e3.gg.trans e4.gg).trans e5.gg)).append (.one r5), by rw [List.length_append, List.length_singleton]; omega, er, by rw [eall, List.append_assoc]; rfl⟩
                    · rw [upd_ne (ne_of_none hb n5)]; exact e15.sub _ _ hb
                    · rw [upd_ne (ne_of_none hb hL)]; exact e15.hh _ _ hb
              | false =>
                dsimp only at ec'
                rw [if_neg Bool.false_ne_true]
                exact ⟨G4, acc, as, rest, e13.trans e4, n4, h4, ra.up (e3.gg.trans e4.gg), by omega, ec', eall⟩
        · have ei : i = ds.length := by omega
          subst ei
          rw [List.drop_length] at ec'
          cases ec'
          rw [List.append_nil] at eall
          subst eall
          exact .inl ⟨w.stop G' H' e', q L acc G' H' e' hL nG' hL' ra⟩
    · exact q.elim
section
variable {X : Cx} {W : WX} {wr : List Nat} {pos : Pos}
theorem n_lc {elt tg it : Expr} {ifs : List Expr} {scope : Scope} {own : List (Str × Nat)} {vs : List Nat} {f : EnvS → R (List D)} {h : D → EnvS → R EnvS} {t : EnvS → R Bool} {fe : EnvS → R D} (hN : X.N.Nodup) (hi : PJD X W tg it f) (ok : BlkOk X.N X.env.scope scope own)
    (hg : ∀ (s : Shared) (H : Hp) (C : Addr) (cl : List (Str × Addr)) (fp : List Addr), PGD (X.blk s H scope (compEnvC scope cl C X.env) fp) wr tg h) (ht : ∀ (s : Shared) (H : Hp) (C : Addr) (cl : List (Str × Addr)) (fp : List Addr), PTs (X.blk s H scope (compEnvC scope cl C X.env) fp) ifs (tD X.K X.mg W0 rpB t))
    (he : ∀ (s : Shared) (H : Hp) (C : Addr) (cl : List (Str × Addr)) (fp : List Addr), PD (X.blk s H scope (compEnvC scope cl C X.env) fp) W0 elt fe) (hvs : own.map (·.2) = vs := by rfl) (hwr : ∀ i, i ∈ wr → i ∈ vs := by decide) (hc : X.calm = true := by rfl) (hs : ∀ x, foldedSetIterable it X.env x = pure x := by intro _; rfl) :
    PDN X W (.ListComp elt [⟨tg, it, ifs, 0⟩] scope pos) (lcF f h t fe vs) := (pe_lc hc hN hi ok hg ht he hs).wk fun σ H Q q => by subst hvs; exact tLc_of hwr q
theorem p_lc {i : Nat} {y : Str} {py spos : Pos} {elt tg it : Expr} {ifs : List Expr} {scope : Scope} {own : List (Str × Nat)} {vs : List Nat} {f : EnvS → R (List D)} {h : D → EnvS → R EnvS} {t : EnvS → R Bool} {fe : EnvS → R D} (hN : X.N.Nodup) (hi : PJD X W tg it f) (ok : BlkOk X.N X.env.scope scope own)
    (hg : ∀ (s : Shared) (H : Hp) (C : Addr) (cl : List (Str × Addr)) (fp : List Addr), PGD (X.blk s H scope (compEnvC scope cl C X.env) fp) wr tg h) (ht : ∀ (s : Shared) (H : Hp) (C : Addr) (cl : List (Str × Addr)) (fp : List Addr), PTs (X.blk s H scope (compEnvC scope cl C X.env) fp) ifs (tD X.K X.mg W0 rpB t))
    (he : ∀ (s : Shared) (H : Hp) (C : Addr) (cl : List (Str × Addr)) (fp : List Addr), PD (X.blk s H scope (compEnvC scope cl C X.env) fp) W0 elt fe) (hvs : own.map (·.2) = vs := by rfl) (hwr : ∀ i, i ∈ wr → i ∈ vs := by decide) (hc : X.calm = true := by rfl) (hy : X.N[i]? = some y := by rfl) (hyl : X.env.scope.names.lookup y = some .local := by rfl)
    (hsw : swapsWith (.ListComp elt [⟨tg, it, ifs, 0⟩] scope pos) (some (.Name y py)) spos.line X.env = pure true := by exact sw_true rfl rfl rfl (by decide +kernel)) (hs : ∀ x, foldedSetIterable it X.env x = pure x := by intro _; rfl) :
    PS X (.Assign [.Name y py] (.ListComp elt [⟨tg, it, ifs, 0⟩] scope pos) spos) (tAsg (tN X.K X.mg W (lcF f h t fe vs)) (gName i)) := (ps_setLc hc hN hy hyl hsw hi ok hg ht he hs).wk fun Dd σ H q => by subst hvs; exact tLc_of hwr q
def yesB : EnvS → R Bool := fun _ => .ok true
theorem ts_nil : PTs X [] (tD X.K X.mg W0 rpB yesB) := ⟨fun pins s σ H Q I ⟨G, ρ, hs, he, q⟩ => pts_nil.run pins s σ H Q I (Post.done (rp := rpB) q hs rfl)⟩
theorem ts_one {c : Expr} {t : EnvS → R Bool} (h : PTD X W0 c t) : PTs X [c] (tD X.K X.mg W0 rpB t) := pts_one h

/-! ### defs -/
/-- the promise of a def that is a function of data -/
def spD (K : PySem.W.Frag) (mg : Str → Option Value) (n : Nat) (F : List D → R D) : Sp := fun vs H Q E => ∃ G ds, Same G H ∧ RpAll K G vs ds ∧ ds.length = n ∧ Post (rpE K) (fun x H' => ∀ c, mg x = some c → E c none H') G H (F ds) Q
/-- what the def at f is: a function of data -/
abbrev FnD (P : Program) (w : World) (K : PySem.W.Frag) (mg : Str → Option Value) (base : Heap) (k : Nat) (f : Addr) (fd : FuncData) (ps : List Str) (F : List D → R D) : Prop := FnOk P w K mg base (L2.CX P w) k f fd ps (spD K mg ps.length F)
def callU (n : Nat) (F : List D → R D) (g : EnvS → R (List D)) : EnvS → R D := fun ρ => (g ρ).bind fun as => if as.length = n then F as else .no
theorem d_call {k n : Nat} {f : Addr} {fd : FuncData} {ps : List Str} {F : List D → R D} {x : Str} {p : Pos} {e : Expr} {es : List Expr} {g : EnvS → R (List D)} (G : FnD X.prog X.w X.K X.mg X.base k f fd ps F) (hr : Room k X.A) (tk : Takes X W) (hm : X.mg x = some (.ref f)) (hk : PySem.W.keepIn X.K (.ref f) = true) (hb : Binds X.K fd ps [])
    (ha : PAD X W (e :: es) g) (hn : ps.length = n := by rfl) (hg : Gl X x := by rfl) (hdb : (x == ("__debug__" : Str)) = false := by decide) (he : starEach (e :: es) X.env = (false, eval e X.env) :: starEach es X.env := by rfl) (hpl : (backTo pos (starEach es X.env)).any (·.1) = false := by rfl) :
    PD X W (.Call (.Name x p) (e :: es) [] pos) (callU n F g) :=
  (pe_callS G hr hg hm hk hb (fun σ => passAt tk σ) ha hdb he hpl).wk fun σ H Q ⟨G, ρ, hs, he, q⟩ => by
    subst hn
    unfold callU at q
    refine Post.seq q hs he fun as vs G1 H1 _ e1 r1 he1 q1 => ?_
    split at q1
    · rename_i hl
      exact ⟨G1, as, e1.sub, r1, hl, q1⟩
    · exact q1.elim
/-- f() -/
theorem d_call0 {k : Nat} {f : Addr} {fd : FuncData} {F : List D → R D} {x : Str} {p : Pos} (G : FnD X.prog X.w X.K X.mg X.base k f fd [] F) (hr : Room k X.A) (tk : Takes X W) (hm : X.mg x = some (.ref f)) (hk : PySem.W.keepIn X.K (.ref f) = true) (hb : Binds X.K fd [] [])
    (hg : Gl X x := by rfl) (hdb : (x == ("__debug__" : Str)) = false := by decide) :
    PD X W (.Call (.Name x p) [] [] pos) (fun _ => F []) := by
  refine ⟨fun pins s σ H Q I ⟨G1, ρ, hs, he, q⟩ => ?_⟩
  refine wpAny_Call_Name_kw (ld_glob I hg hm ?_ hdb)
  exact PySem.W.callWith_K0 I.kIn hk (run_fnS (us := []) (E := WE W) G hr hb (passAt tk σ) I .nil ⟨G1, [], hs, .nil, rfl, q⟩)
def argS (n : Nat) (ds : List D) : EnvS := ds.map (fun d => some (.pu d)) ++ List.replicate (n - ds.length) none
def fnR (n : Nat) (g : EnvS → Out) (ds : List D) : R D := match g (argS n ds) with
  | .rt d => .ok d
  | .nx _ => .ok .none
  | .ex x _ => .ex x
  | _ => .no
end
section
variable {P : Program} {w : World} {K : PySem.W.Frag} {mg : Str → Option Value} {base : Heap}
theorem start_get {N : List Str} {vs : List V} {i : Nat} {v : V} (h : vs[i]? = some v) : (L2.start N vs)[i]? = some (some v) := by
  unfold L2.start
  have hl := (List.getElem?_eq_some_iff.mp h).1
  rw [List.getElem?_append_left (by simpa using hl), List.getElem?_map, h]
  rfl
theorem argS_get {n : Nat} {ds : List D} {i : Nat} {s : Sl} (h : (argS n ds)[i]? = some (some s)) : ∃ d, ds[i]? = some d ∧ s = .pu d := by
  unfold argS at h
  by_cases hl : i < ds.length
  · rw [List.getElem?_append_left (by simpa using hl), List.getElem?_map] at h
    cases e : ds[i]? with
    | none => rw [e] at h; cases h
    | some d => rw [e] at h; cases h; exact ⟨d, rfl, rfl⟩
  · rw [List.getElem?_append_right (by simp; omega), List.getElem?_replicate] at h
    split at h <;> cases h
theorem def_ok {x qual : Str} {st : Stmt} {f : Addr} {fd : FuncData} {N ps : List Str} {k : Nat} {wr : List Nat} {g : EnvS → Out} (F : Fun K x qual st f fd) (S : FnScope N ps (defScope st))
    (hb : ∀ (cdv : Value) (A : Around) (outer : List Env) (s : Shared) (H : Hp) (E : XK), Room k (A.deeper (envOfC qual (defScope st) s.heap.objs.size f cdv)) →
      Takes (cxOf (L2.CX P w) P w K mg base N qual (defScope st) f cdv A outer s H E) (fun c d _ H => E c d H) →
      PassesOwn (model P w) (A.deeper (envOfC qual (defScope st) s.heap.objs.size f cdv)) (envOfC qual (defScope st) s.heap.objs.size f cdv) (cxOf (L2.CX P w) P w K mg base N qual (defScope st) f cdv A outer s H E).xe →
      PSsD (cxOf (L2.CX P w) P w K mg base N qual (defScope st) f cdv A outer s H E) (fun c d _ H => E c d H) wr (defBody st) g) : FnD P w K mg base (k + 1) f fd ps (fnR N.length g) := by
  refine F.okX S (fun vs H Q E ⟨G, ds, hs, ra, hl, _⟩ => by rw [ra.length]; exact hl) fun cdv A outer s H vs Q E hr ⟨G, ds, hs, ra, hl, q⟩ => ⟨_, hb cdv A outer s H E hr (takes_of rfl rfl rfl rfl) (passes_of rfl), ?_⟩
  have hvl := ra.length
  refine ⟨G, H, G, argS N.length ds, ⟨.refl hs, ?_, ⟨fun i d h => ?_, fun i es h => ?_, ?_⟩, fun i es p h _ => ?_, fun i j es fs p _ h => ?_⟩, ?_⟩
  · unfold L2.start argS
    simp only [List.length_append, List.length_map, List.length_replicate]
    omega
  · obtain ⟨e, h1, h2⟩ := argS_get h
    cases h2
    obtain ⟨v, hv, rv⟩ := ra.get h1
    exact ⟨v, start_get hv, rv⟩
  · obtain ⟨e, h1, h2⟩ := argS_get h
    cases h2
  · unfold L2.start argS
    simp only [List.length_append, List.length_map, List.length_replicate]
    omega
  · obtain ⟨e, h1, h2⟩ := argS_get h
    cases h2
  · obtain ⟨e, h1, h2⟩ := argS_get h
    cases h2
  · unfold fnR at q
    show PostS K mg (fun c d _ H => E c d H) G H wr (L2.start N vs) (argS N.length ds) G (g (argS N.length ds)) _
    cases e : g (argS N.length ds) with
    | nx ρ' => rw [e] at q; exact fun σ' G' H' ok _ _ => q .non G' H' ok.ext .non
    | rt d => rw [e] at q; exact fun v G' H' e' r => q v G' H' e' r
    | bk ρ' => rw [e] at q; exact q.elim
    | ct ρ' => rw [e] at q; exact q.elim
    | ex x ρ' => rw [e] at q; exact fun c σ' G' H' m ok _ _ => q G' H' ok.ext c m
    | no => rw [e] at q; exact q.elim
/-- an error class of the text over ValueError, without an __init__ of its own -/
structure ExcF (K : PySem.W.Frag) (mg : Str → Option Value) (x : Str) (C : Addr) : Prop where
  gP : mg x = some (.ref C)
  xP : PySem.W.excIn K C [.type "ValueError", .type "Exception", .type "BaseException", .type "object"] "ValueError.__new__" = true
  kP : PySem.W.keepIn K (.ref C) = true
  bP : PySem.W.subIn K (.ref C) (.type "BaseException") = some true
  tP : PySem.W.typeIn K (.ref C) = some (.type "type")
theorem s_raise {X : Cx} {W : WX} {x m : Str} {j : Nat} {p p2 p3 pos : Pos} {C : Addr} (T : ExcF X.K X.mg x C) (tk : Takes X W) (hg : Gl X x := by rfl) (hc : X.calm = true := by rfl) (hdb : (x == ("__debug__" : Str)) = false := by decide) : PSD X W [] (.Raise (some (.Call (.Name x p) [.Constant (.str m) j p2] [] p3)) none pos) (fun ρ => .ex x ρ) :=
  (ps_raise hc tk (pmk_own PySem.F.excBase_ValueError T.xP T.gP T.kP (raises_own T.bP T.tP) hg hdb)).wk fun Dd σ H ⟨G0, H0, G, ρ, ok, q⟩ => q (.ref C) σ G H T.gP ok (.refl _) .refl
end
end TD

/-! TdFun: the built-ins, over data. -/
namespace TD
open PySem PySem.Spec PyProof.Rows L2
section
variable {X : Cx} {W : WX}
/-! ### len, abs, min, max, int, str -/
def lenK : List D → R D := fun ds => match ds with
  | [.list xs] => .ok (.int xs.length)
  | [.tuple xs] => .ok (.int xs.length)
  | [.str z] => if lineOk z.length then .ok (.int z.length) else .no
  | [.dict [(.none, .list xs)]] => .ok (.int xs.length)
  | _ => .no
theorem RpAll.inv1 {K : PySem.W.Frag} {G : Hp} {xs : List V} {d : D} (h : RpAll K G xs [d]) : ∃ v, xs = [v] ∧ Rp K G v d := by
  cases h with
  | cons h1 h2 => cases h2; exact ⟨_, rfl, h1⟩
theorem RpAll.inv2 {K : PySem.W.Frag} {G : Hp} {xs : List V} {d e : D} (h : RpAll K G xs [d, e]) : ∃ v u, xs = [v, u] ∧ Rp K G v d ∧ Rp K G u e := by
  cases h with
  | cons h1 h2 =>
    obtain ⟨u, rfl, r⟩ := h2.inv1
    exact ⟨_, _, rfl, h1, r⟩
def rLenAll (K : PySem.W.Frag) : List V → Hp → VK → Prop := fun xs H Q => (∃ p ys, xs = [.ref p] ∧ (SqL K H p ys ∨ SqT K H p ys) ∧ Q (.int ys.length) H) ∨ ∃ z, xs = [.str z] ∧ z.length ≤ sizeLine ∧ Q (.int z.length) H
theorem cr_len : CallR X (.builtin "len") (rLenAll X.K) := call_len_seq.or call_len_str
theorem cd_len : CallD X (rLenAll X.K) lenK := by
  intro ds xs G H Wx Q hs rr q
  unfold lenK at q
  split at q
  · obtain ⟨v, rfl, r⟩ := rr.inv1
    obtain ⟨a, ys, rfl, h1, g1, p1⟩ := r.seqL hs
    exact .inl ⟨a, ys, rfl, .inl (SqL.of h1), by rw [p1.length]; exact q.done hs (.int _)⟩
  · obtain ⟨v, rfl, r⟩ := rr.inv1
    obtain ⟨a, ys, rfl, h1, g1, p1⟩ := r.seqT hs
    exact .inl ⟨a, ys, rfl, .inr h1, by rw [p1.length]; exact q.done hs (.int _)⟩
  · obtain ⟨v, rfl, r⟩ := rr.inv1
    cases r
    split at q
    · rename_i h
      exact .inr ⟨_, rfl, lineOk_le h, q.done hs (.int _)⟩
    · exact q.elim
  · obtain ⟨v, rfl, r⟩ := rr.inv1
    obtain ⟨a, ns, rfl, rfl, h1⟩ := scr_inv r
    exact .inl ⟨a, _, rfl, .inl (hs.seq h1), by rw [List.length_map] at q ⊢; exact q.done hs (.int _)⟩
  · exact q.elim
theorem ld_len : LstD X (rLenAll X.K) (fun ds => .ok (.int ds.length)) := by
  intro ds a xs G H Wx Q hs h r q
  exact .inl ⟨a, xs, rfl, .inl (SqL.of h), by rw [r.length]; exact q.done hs (.int _)⟩
def absK : List D → R D := fun ds => match ds with
  | [.int i] => .ok (.int (if i < 0 then -i else i))
  | _ => .no
theorem cd_abs : CallD X (fun xs H Q => ∃ i, xs = [.int i] ∧ Q (.int (if i < 0 then -i else i)) H) absK := by
  intro ds xs G H Wx Q hs rr q
  unfold absK at q
  split at q
  · obtain ⟨v, rfl, r⟩ := rr.inv1
    cases r
    exact ⟨_, rfl, q.done hs (.int _)⟩
  · exact q.elim
def min2K : List D → R D := fun ds => match ds with
  | [.int i, .int j] => .ok (.int (if j < i then j else i))
  | _ => .no
def max2K : List D → R D := fun ds => match ds with
  | [.int i, .int j] => .ok (.int (if j > i then j else i))
  | _ => .no
theorem cd_min2 : CallD X (fun xs H Q => ∃ i j, xs = [.int i, .int j] ∧ Q (.int (if j < i then j else i)) H) min2K := by
  intro ds xs G H Wx Q hs rr q
  unfold min2K at q
  split at q
  · obtain ⟨v, u, rfl, r, r'⟩ := rr.inv2
    cases r; cases r'
    exact ⟨_, _, rfl, q.done hs (.int _)⟩
  · exact q.elim
theorem cd_max2 : CallD X (fun xs H Q => ∃ i j, xs = [.int i, .int j] ∧ Q (.int (if j > i then j else i)) H) max2K := by
  intro ds xs G H Wx Q hs rr q
  unfold max2K at q
  split at q
  · obtain ⟨v, u, rfl, r, r'⟩ := rr.inv2
    cases r; cases r'
    exact ⟨_, _, rfl, q.done hs (.int _)⟩
  · exact q.elim
def intK : List D → R D := fun ds => match ds with
  | [.int i] => .ok (.int i)
  | [.bool b] => .ok (.int (if b then 1 else 0))
  | _ => .no
theorem cd_int : CallD X (fun xs H Q => (∃ i, xs = [.int i] ∧ Q (.int i) H) ∨ ∃ k, xs = [.bl k] ∧ Q (.int (if k then 1 else 0)) H) intK := by
  intro ds xs G H Wx Q hs rr q
  unfold intK at q
  split at q
  · obtain ⟨v, rfl, r⟩ := rr.inv1
    cases r
    exact .inl ⟨_, rfl, q.done hs (.int _)⟩
  · obtain ⟨v, rfl, r⟩ := rr.inv1
    cases r
    exact .inr ⟨_, rfl, q.done hs (.int _)⟩
  · exact q.elim
def strK : List D → R D := fun ds => match ds with
  | [.int i] => if decide (i.natAbs.log2 < 1920) then .ok (.str (toString i)) else .no
  | _ => .no
theorem cd_str : CallD X (fun xs H Q => ∃ i, xs = [.int i] ∧ i.natAbs.log2 < 1920 ∧ Q (.str (toString i)) H) strK := by
  intro ds xs G H Wx Q hs rr q
  unfold strK at q
  split at q
  · obtain ⟨v, rfl, r⟩ := rr.inv1
    cases r
    split at q
    · rename_i h
      exact ⟨_, rfl, of_decide_eq_true h, q.done hs (.str _)⟩
    · exact q.elim
  · exact q.elim
/-! ### tuple, list -/
def tupK : List D → R D := fun ds => match ds with
  | [.tuple xs] => .ok (.tuple xs)
  | [.list xs] => .ok (.tuple xs)
  | _ => .no
theorem cd_tup : CallD X (fun xs H Q => ∃ p ys, xs = [.ref p] ∧ ((SqL X.K H p ys ∧ ∀ l, H l = none → Q (.ref l) (upd H l (.tup ys))) ∨ (SqT X.K H p ys ∧ Q (.ref p) H))) tupK := by
  intro ds xs G H Wx Q hs rr q
  unfold tupK at q
  split at q
  · obtain ⟨v, rfl, r⟩ := rr.inv1
    obtain ⟨a, ys, rfl, h1, g1, p1⟩ := r.seqT hs
    exact ⟨a, ys, rfl, .inr ⟨h1, q.done hs r⟩⟩
  · obtain ⟨v, rfl, r⟩ := rr.inv1
    obtain ⟨a, ys, rfl, h1, g1, p1⟩ := r.seqL hs
    refine ⟨a, ys, rfl, .inl ⟨SqL.of h1, fun l hl => ?_⟩⟩
    have e := Ext.new (o := .tup ys) hs hl
    exact q _ _ _ e (.tup (SqT.of upd_same) (p1.up e.gg))
  · exact q.elim
theorem ld_tup : LstD X (fun xs H Q => ∃ p ys, xs = [.ref p] ∧ ((SqL X.K H p ys ∧ ∀ l, H l = none → Q (.ref l) (upd H l (.tup ys))) ∨ (SqT X.K H p ys ∧ Q (.ref p) H))) (fun ds => .ok (.tuple ds)) := by
  intro ds a xs G H Wx Q hs h r q
  refine ⟨a, xs, rfl, .inl ⟨SqL.of h, fun l hl => ?_⟩⟩
  have e := Ext.new (o := .tup xs) hs hl
  exact q _ _ _ e (.tup (SqT.of upd_same) (r.up e.gg))
theorem ln_lst : LstN X (fun xs H Q => ∃ p ys, xs = [.ref p] ∧ (SqL X.K H p ys ∨ SqT X.K H p ys) ∧ ∀ l, H l = none → Q (.ref l) (upd H l (.lst ys))) (fun ds => .ok ds) := by
  intro ds a xs G H Wx Q hs h r q
  refine ⟨a, xs, rfl, .inl (SqL.of h), fun l hl => ?_⟩
  exact q l xs G _ (Ext.newH hs hl) hl (hs.free hl) upd_same r
/-- list(t) of settled data -/
def lstK : List D → R (List D) := fun ds => match ds with
  | [.tuple xs] => .ok xs
  | [.list xs] => .ok xs
  | _ => .no
theorem n_lstOf {x : Str} {p pos : Pos} {e : Expr} {g : EnvS → R (List D)} (hm : X.mg x = none) (hv : bootBuiltins x = some (.type "list")) (ha : PAD X W [e] g) (hg : Gl X x := by rfl) (hn : x ≠ "__name__" := by decide) (hdb : (x == ("__debug__" : Str)) = false := by decide)
    (he : starEach [e] X.env = (false, eval e X.env) :: starEach [] X.env := by rfl) : PDN X W (.Call (.Name x p) [e] [] pos) (callN lstK g) :=
  (pe_callTy call_list_of hg hm hv ha hn hdb he rfl).wk fun σ H Q ⟨G, ρ, hs, he, q⟩ => seqP PostN.fin q hs he fun as vs G1 H1 _ e1 r1 he1 q1 => by
    unfold lstK at q1
    split at q1
    · obtain ⟨v, rfl, r⟩ := RpAll.inv1 r1
      obtain ⟨a, ys, rfl, h1, g1, p1⟩ := r.seqT e1.sub
      exact ⟨a, ys, rfl, .inr h1, fun l hl => q1 l ys G1 _ (Ext.newH e1.sub hl) hl (e1.sub.free hl) upd_same p1⟩
    · obtain ⟨v, rfl, r⟩ := RpAll.inv1 r1
      obtain ⟨a, ys, rfl, h1, g1, p1⟩ := r.seqL e1.sub
      exact ⟨a, ys, rfl, .inl (SqL.of h1), fun l hl => q1 l ys G1 _ (Ext.newH e1.sub hl) hl (e1.sub.free hl) upd_same p1⟩
    · exact q1.elim
/-- list(range(..)) -/
def rgNew (f : EnvS → R D) : EnvS → R (List D) := fun ρ => (f ρ).bind fun d => match d with
  | .int i => if decide (0 ≤ i ∧ i ≤ 16777216) then .ok (rngD 0 i.toNat) else .no
  | _ => .no
theorem n_listRg {a : Expr} {p p2 pos pos2 : Pos} {f : EnvS → R D} (hm : X.mg "list" = none) (hm2 : X.mg "range" = none) (ha : PD X W a f) (hg : Gl X "list" := by rfl) (hg2 : Gl X "range" := by rfl) (hc : X.calm = true := by rfl) (na2 : starEach [a] X.env = (false, eval a X.env) :: starEach [] X.env := by rfl)
    (na : starEach [(.Call (.Name "range" p2) [a] [] pos2)] X.env = (false, eval (.Call (.Name "range" p2) [a] [] pos2) X.env) :: starEach [] X.env := by rfl) : PDN X W (.Call (.Name "list" p) [.Call (.Name "range" p2) [a] [] pos2] [] pos) (rgNew f) :=
  (pe_listRg hc hg hm (prg_1 hg2 hm2 ha na2) na).wk fun σ H Q ⟨G, ρ, hs, he, q⟩ => by
    unfold rgNew at q
    refine seqP PostN.fin q hs he fun a v G1 H1 _ e1 r1 he1 q1 => ?_
    cases a with
    | int i =>
      cases r1
      dsimp only at q1
      split at q1
      · rename_i h
        have h' := of_decide_eq_true h
        refine ⟨i, rfl, .of_le (Int.le_refl 0) h'.2 (by decide) h'.1, fun l hl => ?_⟩
        refine q1 l _ G1 _ (Ext.newH e1.sub hl) hl (e1.sub.free hl) upd_same ?_
        have e : rgV 0 i = (List.range i.toNat).map fun j => V.int (0 + (j : Nat)) := by unfold rgV; rw [Int.sub_zero]
        rw [e]
        unfold rngD
        have : ∀ l : List Nat, RpAll X.K G1 (l.map fun j => V.int (0 + (j : Nat))) (l.map fun j => PyData.int (0 + (j : Nat))) := by
          intro l
          induction l with
          | nil => exact .nil
          | cons x r ih => exact .cons (.int _) ih
        exact this _
      · exact q1.elim
    | _ => exact q1.elim
/-! ### any, all, sum, max, min of a list that may be read -/
def anyK : List D → R D := fun ds => match boolsOf ds with
  | some bs => .ok (.bool (bs.any id))
  | none => .no
def allK : List D → R D := fun ds => match boolsOf ds with
  | some bs => .ok (.bool (bs.all id))
  | none => .no
def sumK : List D → R D := fun ds => match intsOf ds with
  | some ns => .ok (.int ns.sum)
  | none => .no
theorem ld_any : LstD X (rAny X.K) anyK := by
  intro ds a xs G H Wx Q hs h r q
  unfold anyK at q
  split at q
  · rename_i bs e
    rw [boolsOf_some e] at r
    rw [r.of_bools] at h
    exact ⟨a, bs, rfl, SqL.of h, q.done hs (.bl _)⟩
  · exact q.elim
theorem ld_all : LstD X (rAll X.K) allK := by
  intro ds a xs G H Wx Q hs h r q
  unfold allK at q
  split at q
  · rename_i bs e
    rw [boolsOf_some e] at r
    rw [r.of_bools] at h
    exact ⟨a, bs, rfl, SqL.of h, q.done hs (.bl _)⟩
  · exact q.elim
theorem ld_sum : LstD X (rSum X.K) sumK := by
  intro ds a xs G H Wx Q hs h r q
  unfold sumK at q
  split at q
  · rename_i bs e
    rw [intsOf_some e] at r
    rw [r.of_ints] at h
    exact ⟨a, bs, rfl, SqL.of h, q.done hs (.int _)⟩
  · exact q.elim
def maxI : List Int → Int
  | [] => 0
  | [a] => a
  | a :: r => if maxI r > a then maxI r else a
def minI : List Int → Int
  | [] => 0
  | [a] => a
  | a :: r => if minI r < a then minI r else a
theorem maxI_mem : ∀ {ns : List Int}, ns ≠ [] → maxI ns ∈ ns ∧ ∀ y ∈ ns, y ≤ maxI ns
  | [a], _ => ⟨List.mem_singleton_self a, fun y h => by rw [List.mem_singleton] at h; subst h; exact Int.le_refl _⟩
  | a :: b :: r, _ => by
    obtain ⟨h1, h2⟩ := maxI_mem (ns := b :: r) (by simp)
    have e : maxI (a :: b :: r) = if maxI (b :: r) > a then maxI (b :: r) else a := rfl
    rw [e]
    split
    · exact ⟨List.mem_cons_of_mem _ h1, fun y hy => by
        rcases List.mem_cons.mp hy with z | z
        · subst z; omega
        · exact h2 y z⟩
    · exact ⟨List.mem_cons_self, fun y hy => by
        rcases List.mem_cons.mp hy with z | z
        · subst z; omega
        · have := h2 y z; omega⟩
theorem minI_mem : ∀ {ns : List Int}, ns ≠ [] → minI ns ∈ ns ∧ ∀ y ∈ ns, minI ns ≤ y
  | [a], _ => ⟨List.mem_singleton_self a, fun y h => by rw [List.mem_singleton] at h; subst h; exact Int.le_refl _⟩
  | a :: b :: r, _ => by
    obtain ⟨h1, h2⟩ := minI_mem (ns := b :: r) (by simp)
    have e : minI (a :: b :: r) = if minI (b :: r) < a then minI (b :: r) else a := rfl
    rw [e]
    split
    · exact ⟨List.mem_cons_of_mem _ h1, fun y hy => by
        rcases List.mem_cons.mp hy with z | z
        · subst z; omega
        · exact h2 y z⟩
    · exact ⟨List.mem_cons_self, fun y hy => by
        rcases List.mem_cons.mp hy with z | z
        · subst z; omega
        · have := h2 y z; omega⟩
def maxK : List D → R D := fun ds => match intsOf ds with
  | some (n :: ns) => .ok (.int (maxI (n :: ns)))
  | _ => .no
def minK : List D → R D := fun ds => match intsOf ds with
  | some (n :: ns) => .ok (.int (minI (n :: ns)))
  | _ => .no
theorem ld_max : LstD X (rMax X.K) maxK := by
  intro ds a xs G H Wx Q hs h r q
  unfold maxK at q
  split at q
  · rename_i n ns e
    rw [intsOf_some e] at r
    rw [r.of_ints] at h
    refine ⟨a, n :: ns, rfl, SqL.of h, by simp, fun m hm hle => ?_⟩
    obtain ⟨h1, h2⟩ := maxI_mem (ns := n :: ns) (by simp)
    have e1 := hle _ h1
    have e2 := h2 _ hm
    have e3 : m = maxI (n :: ns) := by omega
    rw [e3]
    exact q.done hs (.int _)
  · exact q.elim
theorem ld_min : LstD X (rMin X.K) minK := by
  intro ds a xs G H Wx Q hs h r q
  unfold minK at q
  split at q
  · rename_i n ns e
    rw [intsOf_some e] at r
    rw [r.of_ints] at h
    refine ⟨a, n :: ns, rfl, SqL.of h, by simp, fun m hm hle => ?_⟩
    obtain ⟨h1, h2⟩ := minI_mem (ns := n :: ns) (by simp)
    have e1 := hle _ h1
    have e2 := h2 _ hm
    have e3 : m = minI (n :: ns) := by omega
    rw [e3]
    exact q.done hs (.int _)
  · exact q.elim
/-! ### isinstance -/
def tyName : D → String
  | .none => "NoneType"
  | .bool _ => "bool"
  | .int _ => "int"
  | .str _ => "str"
  | .list _ => "list"
  | .tuple _ => "tuple"
  | .dict _ => "?"
def isiD (T : String) (f : EnvS → R D) : EnvS → R D := fun ρ => (f ρ).bind fun d => match d with
  | .dict _ => .no
  | d => match kitB (tyName d) T with
    | some b => .ok (.bool b)
    | none => .no
theorem Rp.ty {K : PySem.W.Frag} {G H : Hp} {v : V} {d : D} (hs : Same G H) (r : Rp K G v d) (hd : ∀ kv, d ≠ .dict kv) : TyX K H v (.type (tyName d)) := by
  cases d with
  | none => cases r; exact .base .non
  | bool b => cases r; exact .base (.bl b)
  | int i => cases r; exact .base (.int i)
  | str x => cases r; exact .base (.str x)
  | list ds => obtain ⟨a, xs, rfl, h1, _, _⟩ := r.seqL hs; exact .base (.lst h1)
  | tuple ds =>
    obtain ⟨a, xs, rfl, h1, _, _⟩ := r.seqT hs
    rcases h1 with (h | ⟨o, h⟩) | ⟨o, its, n, hk, hc, _⟩
    · exact .base (.tup h)
    · exact .fTuple h
    · exact .kTuple hk hc
  | dict kv => exact absurd rfl (hd kv)
theorem d_isi {x : Str} {p p2 pos : Pos} {T : String} {e : Expr} {f : EnvS → R D} (hm : X.mg "isinstance" = none) (hmT : X.mg x = none) (hvT : bootBuiltins x = some (.type T)) (ha : PD X W e f) (hg : Gl X "isinstance" := by rfl) (hgT : Gl X x := by rfl) (hnT : x ≠ "__name__" := by decide) (hdT : (x == ("__debug__" : Str)) = false := by decide)
    (he : starEach [e, .Name x p2] X.env = (false, eval e X.env) :: starEach [.Name x p2] X.env := by rfl) (he2 : starEach [.Name x p2] X.env = (false, eval (.Name x p2) X.env) :: starEach [] X.env := by rfl)
    (hpl : (backTo pos (starEach [.Name x p2] X.env)).any (·.1) = false := by rfl) : PD X W (.Call (.Name "isinstance" p) [e, .Name x p2] [] pos) (isiD T f) :=
  (pe_callB call_isi hg hm boot_isinstance (pa_cons ha (pa_cons (pe_bltn (v := .ty T) hgT hmT hvT rfl hnT hdT) pa_nil he2) he) (by decide) (by decide) he hpl).wk fun σ H Q ⟨G, ρ, hs, he, q⟩ => by
    unfold isiD at q
    refine Post.seq q hs he fun a v G1 H1 _ e1 r1 he1 q1 => ?_
    split at q1
    · exact q1.elim
    · rename_i hnd
      split at q1
      · rename_i b hb
        exact ⟨v, .ty T, _, _, b, rfl, .ty T, Rp.ty e1.sub r1 hnd, kit_ty hb, q1.done e1.sub (.bl b)⟩
      · exact q1.elim
end
end TD

/-! TdMore: slices of any kind, lent lists, index, remove, enumerate of a tuple, sorted, chains. -/
namespace TD
open PySem PySem.Spec PyProof.Rows L2
theorem hu65 {A : Around} {k : Nat} (hr : Room k A) : A.units + 65 < cLine := by have := hr.un; omega
section
variable {X : Cx} {W : WX} {pos : Pos}
/-! ### slices -/
def slcG (f : EnvS → R D) (g h : EnvS → R (Option Int)) : EnvS → R D := fun ρ => (f ρ).bind fun d => (g ρ).bind fun lo => (h ρ).bind fun hi => match d with
  | .tuple ds => .ok (.tuple (cutD ds lo hi))
  | .list ds => .ok (.list (cutD ds lo hi))
  | .str z => if lineOk z.length then .ok (.str (cutS z lo hi)) else .no
  | _ => .no
theorem d_slc {e : Expr} {lo hi : Option Expr} {p2 : Pos} {f : EnvS → R D} {g h : EnvS → R (Option Int)} (he : PD X W e f) (hl : POD X W lo g) (hu : POD X W hi h) : PD X W (.Subscript e (.Slice lo hi none p2) pos) (slcG f g h) :=
  (pe_slice (sl_tupA.or (sl_list.or sl_str)) he hl hu).wk fun σ H Q ⟨G, ρ, hs, he, q⟩ => by
    unfold slcG at q
    refine Post.seq q hs he fun a v G1 H1 _ e1 r1 he1 q1 => ?_
    refine Post.seq q1 e1.sub he1 fun lo lo' G2 H2 _ e2 r2 he2 q2 => ?_
    refine Post.seq q2 e2.sub he2 fun hi hi' G3 H3 _ e3 r3 he3 q3 => ?_
    subst r2 r3
    have r1 := Rp.up r1 (e2.gg.trans e3.gg)
    cases a with
    | tuple ds =>
      obtain ⟨l, xs, rfl, h1, g1, p1⟩ := r1.seqT e3.sub
      refine .inl ⟨l, xs, rfl, h1, fun hw => ?_, fun _ p hp => ?_⟩
      · rw [p1.length] at hw
        have q3 : Post (rpE X.K) (Wxo X.mg W σ) G3 H3 (.ok (.tuple (cutD ds lo' hi'))) Q := q3
        rw [cut_all hw] at q3
        exact q3.done e3.sub (.tup g1 p1)
      · have e := Ext.new (o := .tup (cutV xs lo' hi')) e3.sub hp
        exact q3 _ _ _ e (.tup (SqT.of upd_same) ((p1.cut lo' hi').up e.gg))
    | list ds =>
      obtain ⟨l, xs, rfl, h1, g1, p1⟩ := r1.seqL e3.sub
      refine .inr (.inl ⟨l, xs, rfl, SqL.of h1, fun p hp => ?_⟩)
      have e := Ext.new (o := .lst (cutV xs lo' hi')) e3.sub hp
      exact q3 _ _ _ e (.lst upd_same ((p1.cut lo' hi').up e.gg))
    | str z =>
      cases r1
      dsimp only at q3
      split at q3
      · rename_i hl
        exact .inr (.inr ⟨z, rfl, lineOk_le hl, q3.done e3.sub (.str _)⟩)
      · exact q3.elim
    | _ => exact q3.elim
/-! ### one's own lists lent -/
mutual
def noL : D → Bool
  | .tuple ds => noLs ds
  | .none => true
  | .bool _ => true
  | .int _ => true
  | .str _ => true
  | .list _ => false
  | .dict _ => false
def noLs : List D → Bool
  | [] => true
  | d :: r => noL d && noLs r
end
mutual
theorem noL_mono {K : PySem.W.Frag} {G G' : Hp} (h : ∀ a xs, SqT K G a xs → SqT K G' a xs) : ∀ (d : D) (v : V), noL d = true → Rp K G v d → Rp K G' v d
  | .none, _, _, r => by cases r; exact .non
  | .bool _, _, _, r => by cases r; exact .bl _
  | .int _, _, _, r => by cases r; exact .int _
  | .str _, _, _, r => by cases r; exact .str _
  | .tuple ds, v, n, r => by
    cases r with
    | tup h1 h2 => exact .tup (h _ _ h1) (noLs_mono h ds _ (by simpa [noL] using n) h2)
  | .list _, _, n, _ => by simp [noL] at n
  | .dict _, _, n, _ => by simp [noL] at n
theorem noLs_mono {K : PySem.W.Frag} {G G' : Hp} (h : ∀ a xs, SqT K G a xs → SqT K G' a xs) : ∀ (ds : List D) (vs : List V), noLs ds = true → RpAll K G vs ds → RpAll K G' vs ds
  | [], _, _, r => by cases r; exact .nil
  | d :: ds, _, n, r => by
    have n' : noL d = true ∧ noLs ds = true := by simpa [noLs] using n
    cases r with
    | cons h1 h2 => exact .cons (noL_mono h d _ n'.1 h1) (noLs_mono h ds _ n'.2 h2)
end
def toF (ρ : EnvS) : EnvS := ρ.map fun o => match o with
  | some (.ow ds) => some (.pu (.list ds))
  | o => o
def lendF (f : EnvS → R D) : EnvS → R D := fun ρ => (f (toF ρ)).bind fun d => if noL d = true then .ok d else .no
theorem d_lend {e : Expr} {f : EnvS → R D} (h : PD X W e f) : PD X W e (lendF f) := L2.PE.wk h fun σ H Q ⟨G, ρ, hs, he, q⟩ => by
  classical
  let own : Addr → Prop := fun p => ∃ (i : Nat) (ds : List D), ρ[i]? = some (some (.ow ds)) ∧ σ[i]? = some (some (V.ref p))
  have ownH : ∀ p, own p → G p = none ∧ ∃ vs, H p = some (.lst vs) := fun p ⟨i, ds, h1, h2⟩ => by
    obtain ⟨p', vs, z1, z2, z3, _⟩ := he.ow i ds h1
    rw [h2] at z1
    cases z1
    exact ⟨z3, vs, z2⟩
  let GF : Hp := fun p => if own p then H p else G p
  have gfO : ∀ p, own p → GF p = H p := fun p h => if_pos h
  have gfN : ∀ p, ¬ own p → GF p = G p := fun p h => if_neg h
  have sF : Same G GF := fun b o hb => by
    by_cases z : own b
    · rw [(ownH b z).1] at hb; cases hb
    · rw [gfN b z]; exact hb
  have sH : Same GF H := fun b o hb => by
    by_cases z : own b
    · rw [gfO b z] at hb; exact hb
    · rw [gfN b z] at hb; exact hs b o hb
  have envF : EnvE X.K GF H σ (toF ρ) := by
    refine ⟨fun i d hi => ?_, fun i ds hi => ?_, by unfold toF; rw [List.length_map]; exact he.len⟩
    · unfold toF at hi
      rw [List.getElem?_map] at hi
      cases ei : ρ[i]? with
      | none => rw [ei] at hi; cases hi
      | some o =>
        rw [ei] at hi
        cases o with
        | none => cases hi
        | some s =>
          cases s with
          | pu d' =>
            cases hi
            obtain ⟨v, h1, h2⟩ := he.pu i d ei
            exact ⟨v, h1, h2.up sF⟩
          | ow ds =>
            cases hi
            obtain ⟨p, vs, h1, h2, h3, h4⟩ := he.ow i ds ei
            exact ⟨_, h1, .lst (by rw [gfO p ⟨i, ds, ei, h1⟩]; exact h2) (h4.up sF)⟩
    · unfold toF at hi
      rw [List.getElem?_map] at hi
      cases ei : ρ[i]? with
      | none => rw [ei] at hi; cases hi
      | some o =>
        rw [ei] at hi
        cases o with
        | none => cases hi
        | some s => cases s <;> cases hi
  -- back
  have back : ∀ {G' H' : Hp}, Ext GF H G' H' → ∃ G2, Ext G H G2 H' ∧ ∀ a xs, SqT X.K G' a xs → SqT X.K G2 a xs := fun {G' H'} e => by
    refine ⟨fun p => if own p then none else G' p, ⟨fun b o hb => ?_, e.hh, fun b o hb => ?_, fun p h1 h2 => ?_⟩, fun a xs r => ?_⟩
    · by_cases z : own b
      · rw [if_pos z] at hb; cases hb
      · rw [if_neg z] at hb; exact e.sub b o hb
    · have z : ¬ own b := fun z => by rw [(ownH b z).1] at hb; cases hb
      show (if own b then none else G' b) = some o
      rw [if_neg z]
      exact e.gg b o (sF b o hb)
    · by_cases z : own p
      · exact absurd (if_pos z) h2
      · have h2 : G' p ≠ none := fun q => h2 (by show (if own p then none else G' p) = none; rw [if_neg z]; exact q)
        exact e.fr p (by rw [gfN p z]; exact h1) h2
    · have no : ∀ o, G' a = some o → (∀ vs, o ≠ .lst vs) → (if own a then none else G' a) = some o := fun o ho hn => by
        have z : ¬ own a := fun z => by
          obtain ⟨_, vs, hv⟩ := ownH a z
          have := e.gg a _ (by rw [gfO a z]; exact hv)
          rw [ho] at this
          cases this
          exact hn vs rfl
        rw [if_neg z]
        exact ho
      rcases r with (r | ⟨o, r⟩) | r
      · exact .inl (.inl (no _ r fun vs z => by cases z))
      · exact .inl (.inr ⟨o, no _ r fun vs z => by cases z⟩)
      · exact .inr r
  unfold lendF at q
  refine ⟨GF, toF ρ, sH, envF, ?_⟩
  cases ef : f (toF ρ) with
  | ex x =>
    rw [ef] at q
    intro G' H' e
    obtain ⟨G2, e2, _⟩ := back e
    exact q G2 H' e2
  | no => rw [ef] at q; exact q
  | ok d =>
    rw [ef] at q
    dsimp only [R.bind] at q
    split at q
    · rename_i hn
      intro v G' H' e r
      obtain ⟨G2, e2, hT⟩ := back e
      exact q v G2 H' e2 (noL_mono hT d v hn r)
    · exact q.elim
/-! ### chains of two comparisons -/
theorem tChD {r r' : R2} {k k' : D → D → R D} {f g h : EnvS → R D} (hk : OpD X r k) (hk' : OpD X r' k') {σ : L2.St} {H : Hp} {Q : VK} (q : tD X.K X.mg W (rpE X.K) (chD k k' f g h) σ H Q) :
    tChain r r' (tD X.K X.mg W (rpE X.K) f) (tD X.K X.mg W (rpE X.K) g) (tD X.K X.mg W (rpE X.K) h) σ H Q := by
  obtain ⟨G, ρ, hs, he, q⟩ := q
  unfold chD at q
  refine Post.seq q hs he fun x v G1 H1 _ e1 r1 he1 q1 => ?_
  refine Post.seq q1 e1.sub he1 fun y u G2 H2 _ e2 r2 he2 q2 => ?_
  refine hk x y v u G2 H2 (Wxo X.mg W σ) _ e2.sub (Rp.up r1 e2.gg) r2 ?_
  cases ek : k x y with
  | ex z => rw [ek] at q2; exact q2
  | no => rw [ek] at q2; exact q2
  | ok z =>
    rw [ek] at q2
    intro w G3 H3 e3 r3
    have q2 := Post.later q2 e3
    cases z with
    | bool b =>
      cases r3
      refine ⟨b, rfl, ?_⟩
      cases b with
      | true =>
        refine Post.seq q2 e3.sub (he2.up e3) fun z t G4 H4 _ e4 r4 he4 q4 => ?_
        exact hk' y z u t G4 H4 _ Q e4.sub ((Rp.up r2 e3.gg).up e4.gg) r4 q4
      | false => exact Post.done (rp := rpE X.K) q2 e3.sub (.bl false)
    | _ => exact q2.elim
theorem d_chain {op op' : CmpOp} {a b c : Expr} {r r' : R2} {k k' : D → D → R D} {f g h : EnvS → R D} (ho : OpR X (compareOp op) r) (hk : OpD X r k) (ho' : OpR X (compareOp op') r') (hk' : OpD X r' k') (ha : PD X W a f) (hb : PD X W b g) (hc : PD X W c h)
    (hm : lastMarks [op, op'] [b, c] = false := by with_unfolding_all rfl) : PD X W (.Compare a [op, op'] [b, c] pos) (chD k k' f g h) := (pe_chain ho ho' ha hb hc hm).wk fun _ _ _ q => tChD hk hk' q
theorem dt_chain {op op' : CmpOp} {a b c : Expr} {r r' : R2} {k k' : D → D → R D} {f g h : EnvS → R D} (ho : OpR X (compareOp op) r) (hk : OpD X r k) (ho' : OpR X (compareOp op') r') (hk' : OpD X r' k') (ha : PD X W a f) (hb : PD X W b g) (hc : PD X W c h)
    (hm : lastMarks [op, op'] [b, c] = false := by with_unfolding_all rfl) : PTD X W (.Compare a [op, op'] [b, c] pos) (fun ρ => asB (chD k k' f g h ρ)) := (pt_chain ho ho' ha hb hc hm).wk fun _ _ _ q => tTestD q fun _ q' => tChD hk hk' q'
/-! ### x in a tuple; a list times an int; texts -/
def rInT (K : PySem.W.Frag) : R2 := fun x y H Q => ∃ d ds, Dp K H x d ∧ Dp K H y (.tuple ds) ∧ SeqAt.shaped d = true ∧ SeqAt.shaped (.tuple ds) = true ∧ Q (.bl (ds.any fun z => PyData.eqv z d)) H
def rNotInT (K : PySem.W.Frag) : R2 := fun x y H Q => ∃ d ds, Dp K H x d ∧ Dp K H y (.tuple ds) ∧ SeqAt.shaped d = true ∧ SeqAt.shaped (.tuple ds) = true ∧ Q (.bl (!ds.any fun z => PyData.eqv z d)) H
theorem canAll_tup {ds : List D} (h : SeqAt.shaped (.tuple ds) = true) : PyData.canLayAll0 ds = true := by
  have := okD_can (d := .tuple ds) h
  simpa [PyData.canLay0] using this
theorem op_inT (hu : X.A.units + 65 < cLine) : OpR X (compareOp .In) (rInT X.K) := by
  intro pins s σ H x y v u Q I rx ry h
  obtain ⟨d, ds, hd, he, sd, se, q⟩ := h
  obtain ⟨as, r1⟩ := Dp.reads I d x v hd rx
  obtain ⟨bs, r2⟩ := Dp.reads I (.tuple ds) y u he ry
  exact SeqAt.in_tuple_reads r2 r1 (canAll_tup se) (SeqAt.canLay_of_shaped sd) (room_in_shaped sd hu) ⟨.bl _, H, I, rfl, q⟩
theorem op_notInT (hu : X.A.units + 65 < cLine) : OpR X (compareOp .NotIn) (rNotInT X.K) := by
  intro pins s σ H x y v u Q I rx ry h
  obtain ⟨d, ds, hd, he, sd, se, q⟩ := h
  obtain ⟨as, r1⟩ := Dp.reads I d x v hd rx
  obtain ⟨bs, r2⟩ := Dp.reads I (.tuple ds) y u he ry
  exact SeqAt.notIn_tuple_reads r2 r1 (canAll_tup se) (SeqAt.canLay_of_shaped sd) (room_in_shaped sd hu) ⟨.bl _, H, I, rfl, q⟩
def sign1 (s : Str) : Option Nat := match s.cps.toList with
  | [c] => some c
  | _ => none
theorem sign1_eq {s : Str} {c : Nat} (h : sign1 s = some c) : s = ⟨#[c]⟩ := by
  unfold sign1 at h
  split at h
  · rename_i c' e
    cases h
    obtain ⟨⟨l⟩⟩ := s
    have e : l = [c] := e
    rw [e]
  · cases h
def inG (a : D) : D → R D
  | .list ds => if okD a && okD (.list ds) then .ok (.bool (ds.any fun z => PyData.eqv z a)) else .no
  | .tuple ds => if okD a && okD (.tuple ds) then .ok (.bool (ds.any fun z => PyData.eqv z a)) else .no
  | .str t => match a with
    | .str s => match sign1 s with
      | some c => .ok (.bool (decide (c ∈ t.cps.toList)))
      | none => .no
    | _ => .no
  | _ => .no
def notInG (a : D) : D → R D
  | .list ds => if okD a && okD (.list ds) then .ok (.bool (!ds.any fun z => PyData.eqv z a)) else .no
  | .tuple ds => if okD a && okD (.tuple ds) then .ok (.bool (!ds.any fun z => PyData.eqv z a)) else .no
  | .str t => match a with
    | .str s => match sign1 s with
      | some c => .ok (.bool (!decide (c ∈ t.cps.toList)))
      | none => .no
    | _ => .no
  | _ => .no
def rInG (K : PySem.W.Frag) : R2 := fun x y H Q => rInD K x y H Q ∨ (rInT K x y H Q ∨ (fun x y H Q => ∃ (c : Nat) (z : Str), x = .str ⟨#[c]⟩ ∧ y = .str z ∧ Q (.bl (decide (c ∈ z.cps.toList))) H) x y H Q)
def rNotInG (K : PySem.W.Frag) : R2 := fun x y H Q => rNotInD K x y H Q ∨ (rNotInT K x y H Q ∨ (fun x y H Q => ∃ (c : Nat) (z : Str), x = .str ⟨#[c]⟩ ∧ y = .str z ∧ Q (.bl (!decide (c ∈ z.cps.toList))) H) x y H Q)
theorem or_inG (hu : X.A.units + 65 < cLine) : OpR X (compareOp .In) (rInG X.K) := (op_inD hu).or ((op_inT hu).or op_in_sign)
theorem or_notInG (hu : X.A.units + 65 < cLine) : OpR X (compareOp .NotIn) (rNotInG X.K) := (op_notInD hu).or ((op_notInT hu).or op_notIn_sign)
theorem od_inG : OpD X (rInG X.K) inG := by
  intro a b x y G H Wx Q hs ra rb q
  unfold inG at q
  split at q
  · split at q
    · rename_i h
      rw [Bool.and_eq_true] at h
      exact .inl ⟨_, _, Rp.dp _ _ (ra.up hs) (okD_can h.1), Rp.dp _ _ (rb.up hs) (okD_can h.2), h.1, h.2, q.done hs (.bl _)⟩
    · exact q.elim
  · split at q
    · rename_i h
      rw [Bool.and_eq_true] at h
      exact .inr (.inl ⟨_, _, Rp.dp _ _ (ra.up hs) (okD_can h.1), Rp.dp _ _ (rb.up hs) (okD_can h.2), h.1, h.2, q.done hs (.bl _)⟩)
    · exact q.elim
  · split at q
    · split at q
      · rename_i hc
        have hc := sign1_eq hc
        subst hc
        cases ra; cases rb
        exact .inr (.inr ⟨_, _, rfl, rfl, q.done hs (.bl _)⟩)
      · exact q.elim
    · exact q.elim
  · exact q.elim
theorem od_notInG : OpD X (rNotInG X.K) notInG := by
  intro a b x y G H Wx Q hs ra rb q
  unfold notInG at q
  split at q
  · split at q
    · rename_i h
      rw [Bool.and_eq_true] at h
      exact .inl ⟨_, _, Rp.dp _ _ (ra.up hs) (okD_can h.1), Rp.dp _ _ (rb.up hs) (okD_can h.2), h.1, h.2, q.done hs (.bl _)⟩
    · exact q.elim
  · split at q
    · rename_i h
      rw [Bool.and_eq_true] at h
      exact .inr (.inl ⟨_, _, Rp.dp _ _ (ra.up hs) (okD_can h.1), Rp.dp _ _ (rb.up hs) (okD_can h.2), h.1, h.2, q.done hs (.bl _)⟩)
    · exact q.elim
  · split at q
    · split at q
      · rename_i hc
        have hc := sign1_eq hc
        subst hc
        cases ra; cases rb
        exact .inr (.inr ⟨_, _, rfl, rfl, q.done hs (.bl _)⟩)
      · exact q.elim
    · exact q.elim
  · exact q.elim
/-- x in, not in a list that may be read -/
def inL (neg : Bool) (f : EnvS → R D) (g : EnvS → R (List D)) : EnvS → R D := fun ρ => (f ρ).bind fun a => (g ρ).bind fun ds => if okD a && okD (.list ds) then .ok (.bool (if neg then !ds.any fun z => PyData.eqv z a else ds.any fun z => PyData.eqv z a)) else .no
theorem dp_list {K : PySem.W.Frag} {G H : Hp} {a : Addr} {xs : List V} {ds : List D} (hs : Same G H) (h : H a = some (.lst xs)) (r : RpAll K G xs ds) (hk : okD (.list ds) = true) : Dp K H (.ref a) (.list ds) :=
  .lst (SqL.of h) (RpAll.dp ds xs (r.up hs) (by simpa [PyData.canLay0] using okD_can hk))
theorem tInL {neg : Bool} {f : EnvS → R D} {g : EnvS → R (List D)} {σ : L2.St} {H : Hp} {Q : VK} {r : R2} (hr : r = if neg then rNotInD X.K else rInD X.K) (q : tD X.K X.mg W (rpE X.K) (inL neg f g) σ H Q) : tOp r (tD X.K X.mg W (rpE X.K) f) (tL X.K X.mg W g) σ H Q := by
  obtain ⟨G, ρ, hs, he, q⟩ := q
  unfold inL at q
  refine Post.seq q hs he fun a v G1 H1 _ e1 r1 he1 q1 => ?_
  refine seqL Post.fin q1 e1.sub he1 fun ds b xs G2 H2 _ e2 h2 r2 he2 q2 => ?_
  split at q2
  · rename_i h
    rw [Bool.and_eq_true] at h
    subst hr
    cases neg with
    | true => exact ⟨a, ds, Rp.dp _ _ ((Rp.up r1 e2.gg).up e2.sub) (okD_can h.1), dp_list e2.sub h2 r2 h.2, h.1, h.2, q2.done e2.sub (.bl _)⟩
    | false => exact ⟨a, ds, Rp.dp _ _ ((Rp.up r1 e2.gg).up e2.sub) (okD_can h.1), dp_list e2.sub h2 r2 h.2, h.1, h.2, q2.done e2.sub (.bl _)⟩
  · exact q2.elim
theorem d_inL {a b : Expr} {f : EnvS → R D} {g : EnvS → R (List D)} (hu : X.A.units + 65 < cLine) (ha : PD X W a f) (hb : PDL X W b g) (hm : behindInMarks .In b = false := by rfl) : PD X W (.Compare a [.In] [b] pos) (inL false f g) := (pe_cmpR (op_inD hu) ha hb hm).wk fun _ _ _ q => tInL rfl q
theorem d_notInL {a b : Expr} {f : EnvS → R D} {g : EnvS → R (List D)} (hu : X.A.units + 65 < cLine) (ha : PD X W a f) (hb : PDL X W b g) (hm : behindInMarks .NotIn b = false := by rfl) : PD X W (.Compare a [.NotIn] [b] pos) (inL true f g) := (pe_cmpR (op_notInD hu) ha hb hm).wk fun _ _ _ q => tInL rfl q
theorem dt_inL {a b : Expr} {f : EnvS → R D} {g : EnvS → R (List D)} (hu : X.A.units + 65 < cLine) (ha : PD X W a f) (hb : PDL X W b g) (hm : behindInMarks .In b = false := by rfl) : PTD X W (.Compare a [.In] [b] pos) (fun ρ => asB (inL false f g ρ)) := (pt_cmpR (op_inD hu) ha hb hm).wk fun _ _ _ q => tTestD q fun _ q' => tInL rfl q'
theorem dt_notInL {a b : Expr} {f : EnvS → R D} {g : EnvS → R (List D)} (hu : X.A.units + 65 < cLine) (ha : PD X W a f) (hb : PDL X W b g) (hm : behindInMarks .NotIn b = false := by rfl) : PTD X W (.Compare a [.NotIn] [b] pos) (fun ρ => asB (inL true f g ρ)) := (pt_cmpR (op_notInD hu) ha hb hm).wk fun _ _ _ q => tTestD q fun _ q' => tInL rfl q'
/-- list * int -/
def repL (f : EnvS → R (List D)) (g : EnvS → R D) : EnvS → R (List D) := fun ρ => (f ρ).bind fun ds => (g ρ).bind fun d => match d with
  | .int k => if decide (0 ≤ k ∧ k < 100000) && lineOk (ds.length * k.toNat) then .ok (List.replicate k.toNat ds).flatten else .no
  | _ => .no
theorem RpAll.rep {K : PySem.W.Frag} {G : Hp} {xs : List V} {ds : List D} (r : RpAll K G xs ds) : ∀ k : Nat, RpAll K G (List.replicate k xs).flatten (List.replicate k ds).flatten
  | 0 => .nil
  | k + 1 => by
    rw [List.replicate_succ, List.replicate_succ, List.flatten_cons, List.flatten_cons]
    exact r.append (RpAll.rep r k)
theorem n_rep {a b : Expr} {f : EnvS → R (List D)} {g : EnvS → R D} (ha : PDL X W a f) (hb : PD X W b g) : PDN X W (.BinOp a .Mult b pos) (repL f g) := (pe_op op_rep ha hb).wk fun σ H Q ⟨G, ρ, hs, he, q⟩ => by
  unfold repL at q
  refine seqL PostN.fin q hs he fun ds a xs G1 H1 _ e1 h1 r1 he1 q1 => ?_
  refine seqP PostN.fin q1 e1.sub he1 fun i v G2 H2 _ e2 r2 he2 q2 => ?_
  cases i with
  | int k =>
    cases r2
    dsimp only at q2
    split at q2
    · rename_i h
      rw [Bool.and_eq_true] at h
      have hk := of_decide_eq_true h.1
      refine ⟨a, k, xs, rfl, rfl, e2.hh _ _ h1, by omega, by omega, by rw [r1.length]; exact lineOk_le h.2, fun p hp => ?_⟩
      exact q2 p _ G2 _ (Ext.newH e2.sub hp) hp (e2.sub.free hp) upd_same ((r1.up e2.gg).rep _)
    · exact q2.elim
  | _ => exact q2.elim
/-- s.split(sep) -/
def splF (f g : EnvS → R D) : EnvS → R (List D) := fun ρ => (f ρ).bind fun d => match d with
  | .str a => (g ρ).bind fun d' => match d' with
    | .str b => if decide (b.length ≠ 0) && lineOk (a.length + 2) then .ok ((Txt.split a b).map .str) else .no
    | _ => .no
  | _ => .no
theorem RpAll.strs {K : PySem.W.Frag} {G : Hp} : ∀ ys : List Str, RpAll K G (ys.map V.str) (ys.map PyData.str)
  | [] => .nil
  | y :: r => .cons (.str y) (RpAll.strs r)
theorem n_split {o e : Expr} {apos : Pos} {f g : EnvS → R D} (ho : PD X W o f) (he : PD X W e g) (hs : starEach [e] X.env = [(false, eval e X.env)] := by rfl) (hbase : attributeBase o "split" X.env (eval o X.env) = eval o X.env := by rfl) (hline : (apos.endLine == pos.line) = true := by rfl) :
    PDN X W (.Call (.Attribute o "split" apos) [e] [] pos) (splF f g) := (pe_split ho he hs hbase hline).wk fun σ H Q ⟨G, ρ, hs, he, q⟩ => by
  unfold splF at q
  refine seqP PostN.fin q hs he fun a v G1 H1 _ e1 r1 he1 q1 => ?_
  cases a with
  | str a =>
    cases r1
    refine ⟨⟨a, rfl⟩, ?_⟩
    refine seqP PostN.fin q1 e1.sub he1 fun b u G2 H2 _ e2 r2 he2 q2 => ?_
    cases b with
    | str b =>
      cases r2
      dsimp only at q2
      split at q2
      · rename_i h
        rw [Bool.and_eq_true] at h
        have hb := of_decide_eq_true h.1
        refine ⟨a, b, rfl, rfl, beq_eq_false_iff_ne.mpr hb, lineOk_le h.2, fun p hp => ?_⟩
        exact q2 p _ G2 _ (Ext.newH e2.sub hp) hp (e2.sub.free hp) upd_same (RpAll.strs _)
      · exact q2.elim
    | _ => exact q2.elim
  | _ => exact q1.elim
/-- int(..) of an int, a truth value, a text -/
def intG : List D → R D := fun ds => match ds with
  | [.int i] => .ok (.int i)
  | [.bool b] => .ok (.int (if b then 1 else 0))
  | [.str s] => match PySem.intText? s with
    | some n => if decide (s.length ≤ 640) then .ok (.int n) else .no
    | none => .no
  | _ => .no
def rIntG : List V → Hp → VK → Prop := fun xs H Q => ((∃ i, xs = [.int i] ∧ Q (.int i) H) ∨ ∃ k, xs = [.bl k] ∧ Q (.int (if k then 1 else 0)) H) ∨ ∃ a n, xs = [.str a] ∧ PySem.intText? a = some n ∧ a.length ≤ 640 ∧ Q (.int n) H
theorem cr_intG : CallR X (.type "int") rIntG := call_int1.or call_int_str
theorem cd_intG : CallD X rIntG intG := by
  intro ds xs G H Wx Q hs rr q
  unfold intG at q
  split at q
  · obtain ⟨v, rfl, r⟩ := rr.inv1
    cases r
    exact .inl (.inl ⟨_, rfl, q.done hs (.int _)⟩)
  · obtain ⟨v, rfl, r⟩ := rr.inv1
    cases r
    exact .inl (.inr ⟨_, rfl, q.done hs (.int _)⟩)
  · obtain ⟨v, rfl, r⟩ := rr.inv1
    cases r
    split at q
    · rename_i n e
      split at q
      · rename_i h
        exact .inr ⟨_, n, rfl, e, of_decide_eq_true h, q.done hs (.int _)⟩
      · exact q.elim
    · exact q.elim
  · exact q.elim
end
end TD

/-! TdTry: try .. except, over data. -/
namespace TD
open PySem PySem.Spec PyProof.Rows L2
def hdO (xs : List Str) (x : Str) (ρ1 : EnvS) : List (Str × (EnvS → Out)) → Out
  | [] => .ex x ρ1
  | (y, gs) :: r => if x ∈ xs ∧ y ∈ xs then (if x = y then (match gs ρ1 with
      | .ex _ _ => .no
      | o => o) else hdO xs x ρ1 r) else .no
def tryO (xs : List Str) (g : EnvS → Out) (hs : List (Str × (EnvS → Out))) : EnvS → Out := fun ρ => match g ρ with
  | .ex x ρ1 => hdO xs x ρ1 hs
  | o => o
/-- which error is which -/
def EX (K : PySem.W.Frag) (mg : Str → Option Value) (xs : List Str) : Prop := ∀ x, x ∈ xs → ∀ y, y ∈ xs → ∀ c c', mg x = some c → mg y = some c' → PySem.W.exmOne K c c' = some (decide (x = y))
inductive HsD (X : Cx) (wrh : List Nat) : List ExceptHandler → List (Str × (EnvS → Out)) → List (Value × (Addr → Value → Option Addr → TS)) → Prop
  | nil : HsD X wrh [] [] []
  | cons {x : Str} {c : Value} {gs : EnvS → Out} {b₀ : Stmt} {suite : List Stmt} {np pos' : Pos} {hds : List ExceptHandler} {l : List (Str × (EnvS → Out))} {ll : List (Value × (Addr → Value → Option Addr → TS))} (hm : X.mg x = some c)
      (hsu : ∀ (a : Addr) (oe : Obj) (cls : Value) (d : Option Addr) (pn : List (Addr × Obj)), Zc cls d oe → (∃ vs, oe.data = .fields vs) → PSsD (X.suite a ((a, oe) :: pn)) W0 wrh (b₀ :: suite) gs) (r : HsD X wrh hds l ll)
      (hg : Gl X x := by rfl) (hdb : (x == ("__debug__" : Str)) = false := by decide) :
      HsD X wrh (.ExceptHandler (some (.Name x np)) none (b₀ :: suite) pos' :: hds) ((x, gs) :: l) ((c, fun _ _ _ => tS X.K X.mg W0 wrh gs) :: ll)
section
variable {X : Cx} {W : WX} {wr wrh : List Nat} {pos : Pos}
theorem d_globI {x : Str} {i : Int} {t : Tok} (hm : X.mg x = some (.int i t)) (hg : Gl X x := by rfl) (hd : (x == ("__debug__" : Str)) = false := by decide) : PD X W (.Name x pos) (cD (.int i)) := d_glob (v := .int i) hg hm ⟨t, rfl⟩ (fun _ => .int i) hd
theorem d_globS {x : Str} {i : Str} {t : Tok} (hm : X.mg x = some (.str i t)) (hg : Gl X x := by rfl) (hd : (x == ("__debug__" : Str)) = false := by decide) : PD X W (.Name x pos) (cD (.str i)) := d_glob (v := .str i) hg hm ⟨t, rfl⟩ (fun _ => .str i) hd
theorem d_globT {x : Str} {a : Addr} {d : D} (hm : X.mg x = some (.ref a) ∧ ∀ G, Rp X.K G (.ref a) d) (hg : Gl X x := by rfl) (hd : (x == ("__debug__" : Str)) = false := by decide) : PD X W (.Name x pos) (cD d) := d_glob (v := .ref a) hg hm.1 rfl hm.2 hd
theorem HsD.hds {hds : List ExceptHandler} {l : List (Str × (EnvS → Out))} {ll : List (Value × (Addr → Value → Option Addr → TS))} (h : HsD X wrh hds l ll) : HdsOk X hds ll := by
  induction h with
  | nil => exact .nil
  | cons hm hsu r hg hdb ih => exact .cons ⟨hg, hdb, .inl hm⟩ (fun a oe cls d pn z v => hsu a oe cls d pn z v) ih
theorem ss_mono {wr' : List Nat} {st : List Stmt} {g : EnvS → Out} (h : PSsD X W wr st g) (s : ∀ i, i ∈ wr → i ∈ wr') : PSsD X W wr' st g := L2.PSs.wk h fun Dd σ H ⟨G0, H0, G, ρ, ok, q⟩ => ⟨G0, H0, G, ρ, ok, PostS.later q s (.refl _) .refl⟩
theorem hd_post {K : PySem.W.Frag} {mg : Str → Option Value} {xs : List Str} (hE : EX X.K X.mg xs) {hds : List ExceptHandler} {l : List (Str × (EnvS → Out))} {ll : List (Value × (Addr → Value → Option Addr → TS))} (h : HsD X wrh hds l ll)
    {G0 H0 G : Hp} {σ : L2.St} {ρ : EnvS} {x : Str} {ρ1 : EnvS} {Dd : Ends} {wr' : List Nat} (hw : ∀ i, i ∈ wrh → i ∈ wr') (q : PostS X.K X.mg W G0 H0 wr' σ ρ G (hdO xs x ρ1 l) Dd)
    {c : Value} {σ' : L2.St} {G' H' : Hp} (m : X.mg x = some c) (ok : StOk X.K G0 H0 G' H' σ' ρ1) (sg : Same G G') (fr : Fr wr' σ ρ σ' ρ1) : wMany X.K W Dd ll c none σ' H' := by
  induction h with
  | nil => exact q c σ' G' H' m ok sg fr
  | cons hm hsu r hg hdb ih =>
    rename_i y cy gs b0 suite np pos' hds l ll
    unfold hdO at q
    split at q
    · rename_i hmem
      refine ⟨decide (x = y), hE x hmem.1 y hmem.2 c cy m hm, fun hb a ha => ?_, fun hb => ?_⟩
      · have e := of_decide_eq_true hb
        rw [if_pos e] at q
        refine ⟨G0, H0, G', ρ1, ok, ?_⟩
        cases eg : gs ρ1 with
        | nx ρ2 => rw [eg] at q; exact PostS.later (W := W0) (o := .nx ρ2) (show PostS X.K X.mg W0 G0 H0 wr' σ ρ G (.nx ρ2) Dd from q) hw sg fr
        | rt d => rw [eg] at q; exact q
        | bk ρ2 => rw [eg] at q; exact PostS.later (W := W0) (o := .bk ρ2) (show PostS X.K X.mg W0 G0 H0 wr' σ ρ G (.bk ρ2) Dd from q) hw sg fr
        | ct ρ2 => rw [eg] at q; exact PostS.later (W := W0) (o := .ct ρ2) (show PostS X.K X.mg W0 G0 H0 wr' σ ρ G (.ct ρ2) Dd from q) hw sg fr
        | ex z ρ2 => rw [eg] at q; exact q.elim
        | no => rw [eg] at q; exact q
      · have e := of_decide_eq_false hb
        rw [if_neg e] at q
        exact ih q
    · exact q.elim
theorem s_try (xs : List Str) {body : List Stmt} {h₀ : ExceptHandler} {hds : List ExceptHandler} {g : EnvS → Out} {l : List (Str × (EnvS → Out))} {ll : List (Value × (Addr → Value → Option Addr → TS))} (tk : Takes X W) (hE : EX X.K X.mg xs)
    (hb : ∀ (W' : WX) (pn : List (Addr × Obj)) (xe : Value → Shared → Prop), Takes (X.tr pn xe) W' → PassesOwn (model X.prog X.w) X.A X.env xe → PSsD (X.tr pn xe) W' wr body g) (hh : HsD X wrh (h₀ :: hds) l ll)
    (hs : X.stack = X.env :: X.outer := by rfl) (hf : X.env.frame = some X.env.locals := by rfl) : PSD X W (wr ++ wrh) (.Try body (h₀ :: hds) [] [] pos) (tryO xs g l) :=
  (ps_try_many (tb := fun W' => tS X.K X.mg W' wr g) hs hf tk (fun W' pn xe t p => hb W' pn xe t p) hh.hds).wk fun Dd σ H ⟨G0, H0, G, ρ, ok, q⟩ => by
    refine ⟨G0, H0, G, ρ, ok, ?_⟩
    unfold tryO at q
    have mono : ∀ i, i ∈ wr → i ∈ wr ++ wrh := fun i h => List.mem_append_left _ h
    cases eg : g ρ with
    | nx ρ2 => rw [eg] at q; exact PostS.later (W := wMany X.K W Dd ll) (o := .nx ρ2) (show PostS X.K X.mg _ G0 H0 (wr ++ wrh) σ ρ G (.nx ρ2) Dd from q) mono (.refl _) .refl
    | rt d => rw [eg] at q; exact q
    | bk ρ2 => rw [eg] at q; exact PostS.later (W := wMany X.K W Dd ll) (o := .bk ρ2) (show PostS X.K X.mg _ G0 H0 (wr ++ wrh) σ ρ G (.bk ρ2) Dd from q) mono (.refl _) .refl
    | ct ρ2 => rw [eg] at q; exact PostS.later (W := wMany X.K W Dd ll) (o := .ct ρ2) (show PostS X.K X.mg _ G0 H0 (wr ++ wrh) σ ρ G (.ct ρ2) Dd from q) mono (.refl _) .refl
    | ex x ρ1 =>
      rw [eg] at q
      exact fun c σ' G' H' m ok' sg fr => hd_post (K := X.K) (mg := X.mg) hE hh (fun i h => List.mem_append_right _ h) q m ok' sg (fr.mono mono)
    | no => rw [eg] at q; exact q
end
end TD

/-! TdEval: reckoning with the functions of data. -/
namespace TD
open PySem PySem.Spec PyProof.Rows L2
section
variable {ρ : EnvS} {f f' f3 : EnvS → R D} {g g' g3 : EnvS → R (List D)} {t t' : EnvS → R Bool} {o o' : EnvS → Out} {i j l : Nat} {k k' : D → D → R D}
def rtK (r : R D) (ρ : EnvS) : Out := r.out ρ fun d => .rt d
def exK (r : R D) (ρ : EnvS) : Out := r.out ρ fun _ => .nx ρ
def ifK (r : R Bool) (o o' : EnvS → Out) (ρ : EnvS) : Out := r.out ρ fun b => if b = true then o ρ else o' ρ
def stK (i : Nat) (r : R D) (ρ : EnvS) : Out := r.out ρ fun d => .nx (ρ.set i (some (.pu d)))
def owK (i : Nat) (r : R (List D)) (ρ : EnvS) : Out := r.out ρ fun d => .nx (ρ.set i (some (.ow d)))
def unK (r : R D) (h : D → EnvS → R EnvS) (ρ : EnvS) : Out := r.out ρ fun d => grd (h d ρ)
def parK (i j : Nat) (r : R (List D)) (ρ : EnvS) : Out := r.out ρ fun ds => match ds with
  | [a, b] => .nx ((ρ.set i (some (.pu a))).set j (some (.pu b)))
  | _ => .no
def par3K (i j l : Nat) (r : R (List D)) (ρ : EnvS) : Out := r.out ρ fun ds => match ds with
  | [a, b, c] => .nx (((ρ.set i (some (.pu a))).set j (some (.pu b))).set l (some (.pu c)))
  | _ => .no
def k2 (k : D → D → R D) (a b : R D) : R D := a.bind fun x => b.bind fun y => k x y
def notK (r : R Bool) : R Bool := r.bind fun b => .ok (!b)
def andK (r : R Bool) (t : EnvS → R Bool) (ρ : EnvS) : R Bool := r.bind fun b => if b = true then t ρ else .ok false
def orK (r : R Bool) (t : EnvS → R Bool) (ρ : EnvS) : R Bool := r.bind fun b => if b = true then .ok true else t ρ
def andVK (r : R Bool) (t : EnvS → R D) (ρ : EnvS) : R D := r.bind fun b => if b = true then t ρ else .ok (.bool false)
def orVK (r : R Bool) (t : EnvS → R D) (ρ : EnvS) : R D := r.bind fun b => if b = true then .ok (.bool true) else t ρ
def notVK (r : R Bool) : R D := r.bind fun b => .ok (.bool !b)
def ifDK (r : R Bool) (f f' : EnvS → R D) (ρ : EnvS) : R D := r.bind fun b => if b = true then f ρ else f' ρ
def chK (c : R D) (k' : D → D → R D) (b : R D) (f3 : EnvS → R D) (ρ : EnvS) : R D := c.bind fun c => b.bind fun b => match c with
  | .bool true => (f3 ρ).bind fun d => k' b d
  | .bool false => .ok (.bool false)
  | _ => .no
def cnK (a : R D) (as : R (List D)) : R (List D) := a.bind fun a => as.bind fun as => .ok (a :: as)
def tuK (g : R (List D)) : R D := g.bind fun as => if lineOk as.length then .ok (.tuple as) else .no
def nwK (g : R (List D)) : R (List D) := g.bind fun as => if lineOk as.length then .ok as else .no
def lsK (g : R (List D)) : R D := g.bind fun ds => .ok (.list ds)
def alK (f : R D) : R (List D) := f.bind fun d => match d with
  | .list ds => .ok ds
  | _ => .no
def smK (f : R D) : R (Option Int) := f.bind fun d => match d with
  | .int i => .ok (some i)
  | _ => .no
def slK (f : R D) (h h' : R (Option Int)) : R D := f.bind fun d => h.bind fun lo => h'.bind fun hi => match d with
  | .tuple ds => .ok (.tuple (cutD ds lo hi))
  | .list ds => .ok (.list (cutD ds lo hi))
  | .str z => if lineOk z.length then .ok (.str (cutS z lo hi)) else .no
  | _ => .no
def slLK (g : R (List D)) (h h' : R (Option Int)) : R (List D) := g.bind fun ds => h.bind fun lo => h'.bind fun hi => .ok (cutD ds lo hi)
def caK (g g' : R (List D)) : R (List D) := g.bind fun a => g'.bind fun b => if lineOk (a.length + b.length) then .ok (a ++ b) else .no
def ixLK (g : R (List D)) (f : R D) : R D := g.bind fun ds => f.bind fun i => ixD (.list ds) i
def cuK (n : Nat) (F : List D → R D) (g : R (List D)) : R D := g.bind fun as => if as.length = n then F as else .no
def sqK (f : R D) : R (List D) := f.bind fun d => match d with
  | .list ds => .ok ds
  | .tuple ds => .ok ds
  | .str x => if lineOk x.length then .ok (x.cps.toList.map fun c => .str ⟨#[c]⟩) else .no
  | _ => .no
def loK (g : R (List D)) (h : D → EnvS → R EnvS) (o : EnvS → Out) (ρ : EnvS) : Out := g.out ρ fun ds => forO h o ds ρ
def lcK (g : R (List D)) (h : D → EnvS → R EnvS) (t : EnvS → R Bool) (f : EnvS → R D) (vs : List Nat) (ρ : EnvS) : R (List D) := g.bind fun ds => if lineOk ds.length then compO h t f ds (wipeS ρ vs) else .no
def reK (g : R (List D)) (f : R D) : R (List D) := g.bind fun ds => f.bind fun d => match d with
  | .int k => if decide (0 ≤ k ∧ k < 100000) && lineOk (ds.length * k.toNat) then .ok (List.replicate k.toNat ds).flatten else .no
  | _ => .no
def inK (neg : Bool) (f : R D) (g : R (List D)) : R D := f.bind fun a => g.bind fun ds => if okD a && okD (.list ds) then .ok (.bool (if neg then !ds.any fun z => PyData.eqv z a else ds.any fun z => PyData.eqv z a)) else .no
def rgK (f : R D) : R (List D) := f.bind fun d => match d with
  | .int i => if rngOk i then .ok (rngD 0 i.toNat) else .no
  | _ => .no
def cgK (h : R EnvS) (h' : List D → EnvS → R EnvS) (ds : List D) : R EnvS := h.bind fun ρ1 => h' ds ρ1
def appK (i : Nat) (x : Option (Option Sl)) (r : R D) (ρ : EnvS) : Out := match x with
  | some (some (.ow ds)) => r.out ρ fun d => if lineOk (ds.length + 1) then .nx (ρ.set i (some (.ow (ds ++ [d])))) else .no
  | _ => .no
def tryK (xs : List Str) (r : Out) (hs : List (Str × (EnvS → Out))) : Out := match r with
  | .ex x ρ1 => hdO xs x ρ1 hs
  | o => o
def fnK (r : Out) : R D := match r with
  | .rt d => .ok d
  | .nx _ => .ok .none
  | .ex x _ => .ex x
  | _ => .no
theorem fnR_ap {n : Nat} {ds : List D} : fnR n o ds = fnK (o (argS n ds)) := rfl
@[simp] theorem fnK_rt {d : D} : fnK (.rt d) = .ok d := rfl
@[simp] theorem fnK_nx : fnK (.nx ρ) = .ok .none := rfl
@[simp] theorem fnK_ex {x : Str} : fnK (.ex x ρ) = .ex x := rfl
@[simp] theorem tryO_ap {xs : List Str} {hs : List (Str × (EnvS → Out))} : tryO xs o hs ρ = tryK xs (o ρ) hs := rfl
@[simp] theorem tryK_ex {xs : List Str} {x : Str} {hs : List (Str × (EnvS → Out))} : tryK xs (.ex x ρ) hs = hdO xs x ρ hs := rfl
@[simp] theorem tryK_nx {xs : List Str} {hs : List (Str × (EnvS → Out))} : tryK xs (.nx ρ) hs = .nx ρ := rfl
@[simp] theorem tryK_rt {xs : List Str} {d : D} {hs : List (Str × (EnvS → Out))} : tryK xs (.rt d) hs = .rt d := rfl
@[simp] theorem sqO_ap : sqO o o' ρ = (o ρ).seq o' := rfl
@[simp] theorem nxO_ap : nxO ρ = .nx ρ := rfl
@[simp] theorem rtO_ap : rtO f ρ = rtK (f ρ) ρ := rfl
@[simp] theorem rtK_ok {d : D} : rtK (.ok d) ρ = .rt d := rfl
@[simp] theorem rtK_ex {x : Str} : rtK (.ex x) ρ = .ex x ρ := rfl
@[simp] theorem exO_ap : exO f ρ = exK (f ρ) ρ := rfl
@[simp] theorem exK_ok {d : D} : exK (.ok d) ρ = .nx ρ := rfl
@[simp] theorem exK_ex {x : Str} : exK (.ex x) ρ = .ex x ρ := rfl
@[simp] theorem ifO_ap : ifO t o o' ρ = ifK (t ρ) o o' ρ := rfl
@[simp] theorem ifK_t : ifK (.ok true) o o' ρ = o ρ := rfl
@[simp] theorem ifK_f : ifK (.ok false) o o' ρ = o' ρ := rfl
@[simp] theorem ifK_ex {x : Str} : ifK (.ex x) o o' ρ = .ex x ρ := rfl
@[simp] theorem stO_ap : stO i f ρ = stK i (f ρ) ρ := rfl
@[simp] theorem stK_ok {d : D} : stK i (.ok d) ρ = .nx (ρ.set i (some (.pu d))) := rfl
@[simp] theorem stK_ex {x : Str} : stK i (.ex x) ρ = .ex x ρ := rfl
@[simp] theorem owO_ap : owO i g ρ = owK i (g ρ) ρ := rfl
@[simp] theorem owK_ok {d : List D} : owK i (.ok d) ρ = .nx (ρ.set i (some (.ow d))) := rfl
@[simp] theorem unO_ap {h : D → EnvS → R EnvS} : unO f h ρ = unK (f ρ) h ρ := rfl
@[simp] theorem unK_ok {d : D} {h : D → EnvS → R EnvS} : unK (.ok d) h ρ = grd (h d ρ) := rfl
@[simp] theorem grd_ok : grd (.ok ρ) = .nx ρ := rfl
@[simp] theorem parO_ap : parO i j g ρ = parK i j (g ρ) ρ := rfl
@[simp] theorem parK_ok {a b : D} : parK i j (.ok [a, b]) ρ = .nx ((ρ.set i (some (.pu a))).set j (some (.pu b))) := rfl
@[simp] theorem par3O_ap : par3O i j l g ρ = par3K i j l (g ρ) ρ := rfl
@[simp] theorem par3K_ok {a b c : D} : par3K i j l (.ok [a, b, c]) ρ = .nx (((ρ.set i (some (.pu a))).set j (some (.pu b))).set l (some (.pu c))) := rfl
@[simp] theorem set_nil {x : Option Sl} : List.set ([] : EnvS) i x = [] := rfl
@[simp] theorem varD_zero {d : D} {r : EnvS} : varD 0 (some (.pu d) :: r) = .ok d := rfl
@[simp] theorem varD_succ {x : Option Sl} {r : EnvS} : varD (i + 1) (x :: r) = varD i r := rfl
@[simp] theorem ownD_zero {d : List D} {r : EnvS} : ownD 0 (some (.ow d) :: r) = .ok d := rfl
@[simp] theorem ownD_succ {x : Option Sl} {r : EnvS} : ownD (i + 1) (x :: r) = ownD i r := rfl
@[simp] theorem cD_ap {d : D} : cD d ρ = .ok d := rfl
@[simp] theorem asF_ap : asF f ρ = asB (f ρ) := rfl
@[simp] theorem asB_ok {b : Bool} : asB (.ok (.bool b)) = .ok b := rfl
@[simp] theorem asB_ex {x : Str} : asB (.ex x) = .ex x := rfl
@[simp] theorem bin2_ap : bin2 k f f' ρ = k2 k (f ρ) (f' ρ) := rfl
@[simp] theorem k2_ok {a b : D} : k2 k (.ok a) (.ok b) = k a b := rfl
@[simp] theorem k2_ex {x : Str} {b : R D} : k2 k (.ex x) b = .ex x := rfl
@[simp] theorem k2_ex2 {a : D} {x : Str} : k2 k (.ok a) (.ex x) = .ex x := rfl
@[simp] theorem un1_ap {k : D → R D} : un1 k f ρ = (f ρ).bind k := rfl
@[simp] theorem notB_ap : notB t ρ = notK (t ρ) := rfl
@[simp] theorem notK_ok {b : Bool} : notK (.ok b) = .ok (!b) := rfl
@[simp] theorem notK_ex {x : Str} : notK (.ex x) = .ex x := rfl
@[simp] theorem andB_ap : andB t t' ρ = andK (t ρ) t' ρ := rfl
@[simp] theorem andK_t : andK (.ok true) t ρ = t ρ := rfl
@[simp] theorem andK_f : andK (.ok false) t ρ = .ok false := rfl
@[simp] theorem orB_ap : orB t t' ρ = orK (t ρ) t' ρ := rfl
@[simp] theorem orK_t : orK (.ok true) t ρ = .ok true := rfl
@[simp] theorem orK_f : orK (.ok false) t ρ = t ρ := rfl
@[simp] theorem andV_ap : andV f f' ρ = andVK (asB (f ρ)) f' ρ := rfl
@[simp] theorem andVK_t : andVK (.ok true) f ρ = f ρ := rfl
@[simp] theorem andVK_f : andVK (.ok false) f ρ = .ok (.bool false) := rfl
@[simp] theorem orV_ap : orV f f' ρ = orVK (asB (f ρ)) f' ρ := rfl
@[simp] theorem orVK_t : orVK (.ok true) f ρ = .ok (.bool true) := rfl
@[simp] theorem orVK_f : orVK (.ok false) f ρ = f ρ := rfl
@[simp] theorem notV_ap : notV f ρ = notVK (asB (f ρ)) := rfl
@[simp] theorem notVK_ok {b : Bool} : notVK (.ok b) = .ok (.bool !b) := rfl
@[simp] theorem ifD_ap : ifD t f f' ρ = ifDK (t ρ) f f' ρ := rfl
@[simp] theorem ifDK_t : ifDK (.ok true) f f' ρ = f ρ := rfl
@[simp] theorem ifDK_f : ifDK (.ok false) f f' ρ = f' ρ := rfl
theorem chD_ap : chD k k' f f' f3 ρ = chK (k2 k (f ρ) (f' ρ)) k' (f' ρ) f3 ρ := by
  unfold chD chK k2
  cases f ρ <;> cases f' ρ <;> rfl
@[simp] theorem chK_t {b : D} : chK (.ok (.bool true)) k' (.ok b) f3 ρ = k2 k' (.ok b) (f3 ρ) := rfl
@[simp] theorem chK_f {b : D} : chK (.ok (.bool false)) k' (.ok b) f3 ρ = .ok (.bool false) := rfl
@[simp] theorem nilA_ap : nilA ρ = .ok [] := rfl
@[simp] theorem consA_ap : consA f g ρ = cnK (f ρ) (g ρ) := rfl
@[simp] theorem cnK_ok {a : D} {as : List D} : cnK (.ok a) (.ok as) = .ok (a :: as) := rfl
@[simp] theorem cnK_ex {x : Str} {r : R (List D)} : cnK (.ex x) r = .ex x := rfl
@[simp] theorem cnK_ex2 {a : D} {x : Str} : cnK (.ok a) (.ex x) = .ex x := rfl
@[simp] theorem tupD_ap : tupD g ρ = tuK (g ρ) := rfl
@[simp] theorem tuK_0 : tuK (.ok []) = .ok (.tuple []) := rfl
@[simp] theorem tuK_1 {a : D} : tuK (.ok [a]) = .ok (.tuple [a]) := rfl
@[simp] theorem tuK_2 {a b : D} : tuK (.ok [a, b]) = .ok (.tuple [a, b]) := rfl
@[simp] theorem tuK_3 {a b c : D} : tuK (.ok [a, b, c]) = .ok (.tuple [a, b, c]) := rfl
@[simp] theorem tuK_4 {a b c d : D} : tuK (.ok [a, b, c, d]) = .ok (.tuple [a, b, c, d]) := rfl
@[simp] theorem tuK_ex {x : Str} : tuK (.ex x) = .ex x := rfl
@[simp] theorem newD_ap : newD g ρ = nwK (g ρ) := rfl
@[simp] theorem nwK_0 : nwK (.ok []) = .ok [] := rfl
@[simp] theorem lstF_ap : lstF g ρ = lsK (g ρ) := rfl
@[simp] theorem lsK_ok {ds : List D} : lsK (.ok ds) = .ok (.list ds) := rfl
@[simp] theorem asLF_ap : asLF f ρ = alK (f ρ) := rfl
@[simp] theorem alK_ok {ds : List D} : alK (.ok (.list ds)) = .ok ds := rfl
@[simp] theorem noP_ap : noP ρ = .ok none := rfl
@[simp] theorem someP_ap : someP f ρ = smK (f ρ) := rfl
@[simp] theorem smK_ok {a : Int} : smK (.ok (.int a)) = .ok (some a) := rfl
@[simp] theorem slcG_ap {h h' : EnvS → R (Option Int)} : slcG f h h' ρ = slK (f ρ) (h ρ) (h' ρ) := rfl
@[simp] theorem slK_t {ds : List D} {lo hi : Option Int} : slK (.ok (.tuple ds)) (.ok lo) (.ok hi) = .ok (.tuple (cutD ds lo hi)) := rfl
@[simp] theorem slK_l {ds : List D} {lo hi : Option Int} : slK (.ok (.list ds)) (.ok lo) (.ok hi) = .ok (.list (cutD ds lo hi)) := rfl
theorem slK_s {z : Str} {lo hi : Option Int} : slK (.ok (.str z)) (.ok lo) (.ok hi) = if lineOk z.length then .ok (.str (cutS z lo hi)) else .no := rfl
@[simp] theorem slcL_ap {h h' : EnvS → R (Option Int)} : slcL g h h' ρ = slLK (g ρ) (h ρ) (h' ρ) := rfl
@[simp] theorem slLK_ok {ds : List D} {lo hi : Option Int} : slLK (.ok ds) (.ok lo) (.ok hi) = .ok (cutD ds lo hi) := rfl
@[simp] theorem catL_ap : catL g g' ρ = caK (g ρ) (g' ρ) := rfl
@[simp] theorem ixL_ap : ixL g f ρ = ixLK (g ρ) (f ρ) := rfl
@[simp] theorem ixLK_ok {ds : List D} {d : D} : ixLK (.ok ds) (.ok d) = ixD (.list ds) d := rfl
@[simp] theorem callF_ap {k : List D → R D} : callF k g ρ = (g ρ).bind k := rfl
@[simp] theorem callN_ap {k : List D → R (List D)} : callN k g ρ = (g ρ).bind k := rfl
@[simp] theorem callU_ap {n : Nat} {F : List D → R D} : callU n F g ρ = cuK n F (g ρ) := rfl
@[simp] theorem cuK_0 {F : List D → R D} : cuK 0 F (.ok []) = F [] := rfl
@[simp] theorem cuK_1 {F : List D → R D} {a : D} : cuK 1 F (.ok [a]) = F [a] := rfl
@[simp] theorem cuK_2 {F : List D → R D} {a b : D} : cuK 2 F (.ok [a, b]) = F [a, b] := rfl
@[simp] theorem cuK_3 {F : List D → R D} {a b c : D} : cuK 3 F (.ok [a, b, c]) = F [a, b, c] := rfl
@[simp] theorem cuK_ex {n : Nat} {F : List D → R D} {x : Str} : cuK n F (.ex x) = .ex x := rfl
@[simp] theorem yesB_ap : yesB ρ = .ok true := rfl
@[simp] theorem seqF_ap : seqF f ρ = sqK (f ρ) := rfl
@[simp] theorem sqK_l {ds : List D} : sqK (.ok (.list ds)) = .ok ds := rfl
@[simp] theorem sqK_t {ds : List D} : sqK (.ok (.tuple ds)) = .ok ds := rfl
theorem sqK_s {x : Str} : sqK (.ok (.str x)) = if lineOk x.length then .ok (x.cps.toList.map fun c => .str ⟨#[c]⟩) else .no := rfl
@[simp] theorem loO_ap {h : D → EnvS → R EnvS} : loO g h o ρ = loK (g ρ) h o ρ := rfl
@[simp] theorem loK_ok {h : D → EnvS → R EnvS} {ds : List D} : loK (.ok ds) h o ρ = forO h o ds ρ := rfl
@[simp] theorem lcF_ap {h : D → EnvS → R EnvS} {vs : List Nat} : lcF g h t f vs ρ = lcK (g ρ) h t f vs ρ := rfl
theorem lcK_ok {h : D → EnvS → R EnvS} {vs : List Nat} {ds : List D} (hl : lineOk ds.length = true) : lcK (.ok ds) h t f vs ρ = compO h t f ds (wipeS ρ vs) := if_pos hl
@[simp] theorem repL_ap : repL g f ρ = reK (g ρ) (f ρ) := rfl
@[simp] theorem inL_ap {neg : Bool} : inL neg f g ρ = inK neg (f ρ) (g ρ) := rfl
@[simp] theorem rng1F_ap : rng1F f ρ = rgK (f ρ) := rfl
@[simp] theorem nmG_ap {d : D} : nmG i d ρ = .ok (ρ.set i (some (.pu d))) := rfl
@[simp] theorem tupG2_ap {h : List D → EnvS → R EnvS} {a b : D} : tupG 2 h (.tuple [a, b]) ρ = h [a, b] ρ := rfl
@[simp] theorem consG_ap {h : D → EnvS → R EnvS} {h' : List D → EnvS → R EnvS} {d : D} {ds : List D} : consG h h' (d :: ds) ρ = cgK (h d ρ) h' ds := rfl
@[simp] theorem cgK_ok {h' : List D → EnvS → R EnvS} {ds : List D} : cgK (.ok ρ) h' ds = h' ds ρ := rfl
@[simp] theorem nilG_ap : nilG [] ρ = .ok ρ := rfl
@[simp] theorem wipeS_nil : wipeS ρ [] = ρ := rfl
@[simp] theorem wipeS_cons {v : Nat} {vs : List Nat} : wipeS ρ (v :: vs) = (wipeS ρ vs).set v none := rfl
theorem isiD_ap {T : String} : isiD T f ρ = (f ρ).bind fun d => match d with
  | .dict _ => .no
  | d => match kitB (tyName d) T with
    | some b => .ok (.bool b)
    | none => .no := rfl
def isiK (T : String) (d : D) : R D := match d with
  | .dict _ => .no
  | d => match kitB (tyName d) T with
    | some b => .ok (.bool b)
    | none => .no
@[simp] theorem isiD_ap' {T : String} : isiD T f ρ = (f ρ).bind (isiK T) := rfl
@[simp] theorem appO_ap : appO i f ρ = appK i ρ[i]? (f ρ) ρ := by
  unfold appO appK
  generalize ρ[i]? = x
  rcases x with _ | (_ | (d | d)) <;> rfl
theorem appK_ok {d : D} {ds : List D} (h : lineOk (ds.length + 1) = true) : appK i (some (some (.ow ds))) (.ok d) ρ = .nx (ρ.set i (some (.ow (ds ++ [d])))) := if_pos h
end
/-! ### the primitive functions at their kinds -/
@[simp] theorem addD_int {a b : Int} : addD (.int a) (.int b) = .ok (.int (a + b)) := rfl
@[simp] theorem addD_str {a b : Str} : addD (.str a) (.str b) = if lineOk (a.length + b.length) then .ok (.str (a ++ b)) else .no := rfl
@[simp] theorem subD_int {a b : Int} : subD (.int a) (.int b) = .ok (.int (a - b)) := rfl
theorem mulD_int {a b : Int} : mulD (.int a) (.int b) = if mulOk a b then .ok (.int (a * b)) else .no := rfl
theorem fdivD_int {a b : Int} : fdivD (.int a) (.int b) = if divOk b then .ok (.int (a.fdiv b)) else .no := rfl
theorem modD_int {a b : Int} : modD (.int a) (.int b) = if decide (b ≠ 0) then .ok (.int (a.fmod b)) else .no := rfl
@[simp] theorem negD_int {a : Int} : negD (.int a) = .ok (.int (-a)) := rfl
@[simp] theorem ltD_int {a b : Int} : ltD (.int a) (.int b) = .ok (.bool (decide (a < b))) := rfl
@[simp] theorem leD_int {a b : Int} : leD (.int a) (.int b) = .ok (.bool (decide (a ≤ b))) := rfl
@[simp] theorem gtD_int {a b : Int} : gtD (.int a) (.int b) = .ok (.bool (decide (b < a))) := rfl
@[simp] theorem geD_int {a b : Int} : geD (.int a) (.int b) = .ok (.bool (decide (b ≤ a))) := rfl
@[simp] theorem absK_int {a : Int} : absK [.int a] = .ok (.int (if a < 0 then -a else a)) := rfl
@[simp] theorem intG_int {a : Int} : intG [.int a] = .ok (.int a) := rfl
@[simp] theorem lenK_list {ds : List D} : lenK [.list ds] = .ok (.int ds.length) := rfl
@[simp] theorem lenK_tuple {ds : List D} : lenK [.tuple ds] = .ok (.int ds.length) := rfl
@[simp] theorem tupK_list {ds : List D} : tupK [.list ds] = .ok (.tuple ds) := rfl
@[simp] theorem tupK_tuple {ds : List D} : tupK [.tuple ds] = .ok (.tuple ds) := rfl
@[simp] theorem ixT0 {a : D} {r : List D} : ixD (.tuple (a :: r)) (.int 0) = .ok a := rfl
@[simp] theorem ixT1 {a b : D} {r : List D} : ixD (.tuple (a :: b :: r)) (.int 1) = .ok b := rfl
@[simp] theorem ixT2 {a b c : D} {r : List D} : ixD (.tuple (a :: b :: c :: r)) (.int 2) = .ok c := rfl
@[simp] theorem ixT3 {a b c d : D} {r : List D} : ixD (.tuple (a :: b :: c :: d :: r)) (.int 3) = .ok d := rfl
@[simp] theorem ixT4 {a b c d e : D} {r : List D} : ixD (.tuple (a :: b :: c :: d :: e :: r)) (.int 4) = .ok e := rfl
@[simp] theorem ixL0 {a : D} {r : List D} : ixD (.list (a :: r)) (.int 0) = .ok a := rfl
@[simp] theorem ixL1 {a b : D} {r : List D} : ixD (.list (a :: b :: r)) (.int 1) = .ok b := rfl
theorem ixD_list_nat {ds : List D} {n : Nat} {d : D} (h : ds[n]? = some d) : ixD (.list ds) (.int (n : Int)) = .ok d := by
  show optR (atD ds (n : Int)) = _
  unfold atD
  rw [if_pos (Int.natCast_nonneg n), Int.toNat_natCast, h]
  rfl
theorem ixD_tuple_nat {ds : List D} {n : Nat} {d : D} (h : ds[n]? = some d) : ixD (.tuple ds) (.int (n : Int)) = .ok d := by
  show optR (atD ds (n : Int)) = _
  unfold atD
  rw [if_pos (Int.natCast_nonneg n), Int.toNat_natCast, h]
  rfl
/-! ### kinds -/
theorem kit_tt : kitB "tuple" "tuple" = some true := by decide +kernel
theorem kit_it : kitB "int" "tuple" = some false := by decide +kernel
theorem kit_bt : kitB "bool" "tuple" = some false := by decide +kernel
theorem kit_st : kitB "str" "tuple" = some false := by decide +kernel
theorem kit_nt : kitB "NoneType" "tuple" = some false := by decide +kernel
theorem kit_lt : kitB "list" "tuple" = some false := by decide +kernel
theorem kit_ti : kitB "tuple" "int" = some false := by decide +kernel
theorem kit_ii : kitB "int" "int" = some true := by decide +kernel
theorem kit_bi : kitB "bool" "int" = some true := by decide +kernel
theorem kit_si : kitB "str" "int" = some false := by decide +kernel
theorem kit_ni : kitB "NoneType" "int" = some false := by decide +kernel
theorem kit_li : kitB "list" "int" = some false := by decide +kernel
theorem kit_tb : kitB "tuple" "bool" = some false := by decide +kernel
theorem kit_ib : kitB "int" "bool" = some false := by decide +kernel
theorem kit_bb : kitB "bool" "bool" = some true := by decide +kernel
theorem kit_sb : kitB "str" "bool" = some false := by decide +kernel
theorem kit_nb : kitB "NoneType" "bool" = some false := by decide +kernel
theorem kit_lb : kitB "list" "bool" = some false := by decide +kernel
theorem kit_ts : kitB "tuple" "str" = some false := by decide +kernel
theorem kit_is : kitB "int" "str" = some false := by decide +kernel
theorem kit_bs : kitB "bool" "str" = some false := by decide +kernel
theorem kit_ss : kitB "str" "str" = some true := by decide +kernel
theorem kit_ns : kitB "NoneType" "str" = some false := by decide +kernel
theorem kit_ls : kitB "list" "str" = some false := by decide +kernel
section
variable {ρ : EnvS} {f : EnvS → R D}
def isT : D → Bool | .tuple _ => true | _ => false
def isI : D → Bool | .int _ => true | .bool _ => true | _ => false
def isB : D → Bool | .bool _ => true | _ => false
def isS : D → Bool | .str _ => true | _ => false
def isDict : D → Bool | .dict _ => true | _ => false
theorem isi_tuple {d : D} (h : f ρ = .ok d) (hd : isDict d = false) : isiD "tuple" f ρ = .ok (.bool (isT d)) := by
  rw [isiD_ap, h]; cases d <;> first | (cases hd; done) | (simp only [R.bind, tyName, kit_tt, kit_it, kit_bt, kit_st, kit_nt, kit_lt, isT])
theorem isi_int {d : D} (h : f ρ = .ok d) (hd : isDict d = false) : isiD "int" f ρ = .ok (.bool (isI d)) := by
  rw [isiD_ap, h]; cases d <;> first | (cases hd; done) | (simp only [R.bind, tyName, kit_ti, kit_ii, kit_bi, kit_si, kit_ni, kit_li, isI])
theorem isi_bool {d : D} (h : f ρ = .ok d) (hd : isDict d = false) : isiD "bool" f ρ = .ok (.bool (isB d)) := by
  rw [isiD_ap, h]; cases d <;> first | (cases hd; done) | (simp only [R.bind, tyName, kit_tb, kit_ib, kit_bb, kit_sb, kit_nb, kit_lb, isB])
theorem isi_str {d : D} (h : f ρ = .ok d) (hd : isDict d = false) : isiD "str" f ρ = .ok (.bool (isS d)) := by
  rw [isiD_ap, h]; cases d <;> first | (cases hd; done) | (simp only [R.bind, tyName, kit_ts, kit_is, kit_bs, kit_ss, kit_ns, kit_ls, isS])
end
/-! ### loops -/
theorem forO_inv {h : D → EnvS → R EnvS} {gb : EnvS → Out} (Inv : Nat → EnvS → Prop) : ∀ (ds : List D) (n : Nat) (ρ : EnvS), Inv n ρ →
    (∀ i d ρ, ds[i]? = some d → Inv (n + i) ρ → ∃ ρ1 ρ2, h d ρ = .ok ρ1 ∧ (gb ρ1 = .nx ρ2 ∨ gb ρ1 = .ct ρ2) ∧ Inv (n + i + 1) ρ2) → ∃ ρ', forO h gb ds ρ = .nx ρ' ∧ Inv (n + ds.length) ρ'
  | [], n, ρ, h0, _ => ⟨ρ, rfl, h0⟩
  | d :: ds, n, ρ, h0, step => by
    obtain ⟨ρ1, ρ2, e1, e2, i2⟩ := step 0 d ρ rfl h0
    obtain ⟨ρ', e3, i3⟩ := forO_inv Inv ds (n + 1) ρ2 i2 fun i d' ρ' hd hi => by
      have := step (i + 1) d' ρ' (by simpa using hd) (by rw [show n + (i + 1) = n + 1 + i by omega]; exact hi)
      rw [show n + (i + 1) + 1 = n + 1 + i + 1 by omega] at this
      exact this
    refine ⟨ρ', ?_, by rw [show n + (d :: ds).length = n + 1 + ds.length by rw [List.length_cons]; omega]; exact i3⟩
    unfold forO
    rw [e1]
    rcases e2 with e2 | e2 <;> (dsimp only; rw [e2]; exact e3)
theorem forO_inv0 {h : D → EnvS → R EnvS} {gb : EnvS → Out} (Inv : Nat → EnvS → Prop) {ds : List D} {ρ : EnvS} (h0 : Inv 0 ρ)
    (step : ∀ i d ρ, ds[i]? = some d → Inv i ρ → ∃ ρ1 ρ2, h d ρ = .ok ρ1 ∧ (gb ρ1 = .nx ρ2 ∨ gb ρ1 = .ct ρ2) ∧ Inv (i + 1) ρ2) : ∃ ρ', forO h gb ds ρ = .nx ρ' ∧ Inv ds.length ρ' := by
  obtain ⟨ρ', e, i⟩ := forO_inv Inv ds 0 ρ h0 (fun i d ρ hd hi => by rw [Nat.zero_add] at hi ⊢; exact step i d ρ hd hi)
  exact ⟨ρ', e, by rw [Nat.zero_add] at i; exact i⟩
/-- a comprehension without a test -/
theorem compO_map {h : D → EnvS → R EnvS} {fe : EnvS → R D} {ρ : EnvS} (F : D → D) : ∀ (ds : List D), (∀ d ∈ ds, ∃ ρ1, h d ρ = .ok ρ1 ∧ fe ρ1 = .ok (F d)) → compO h yesB fe ds ρ = .ok (ds.map F)
  | [], _ => rfl
  | d :: ds, hd => by
    obtain ⟨ρ1, e1, e2⟩ := hd d List.mem_cons_self
    unfold compO
    rw [e1]
    dsimp only [yesB]
    rw [e2, compO_map F ds fun d h => hd d (List.mem_cons_of_mem _ h)]
    rfl
theorem compO_filter {h : D → EnvS → R EnvS} {t : EnvS → R Bool} {fe : EnvS → R D} {ρ : EnvS} (F : D → D) (p : D → Bool) : ∀ (ds : List D), (∀ d ∈ ds, ∃ ρ1, h d ρ = .ok ρ1 ∧ t ρ1 = .ok (p d) ∧ (p d = true → fe ρ1 = .ok (F d))) → compO h t fe ds ρ = .ok ((ds.filter p).map F)
  | [], _ => rfl
  | d :: ds, hd => by
    obtain ⟨ρ1, e1, e2, e3⟩ := hd d List.mem_cons_self
    have ih := compO_filter F p ds fun d h => hd d (List.mem_cons_of_mem _ h)
    unfold compO
    rw [e1]
    dsimp only
    rw [e2]
    cases hp : p d with
    | true => dsimp only; rw [e3 hp, ih, List.filter_cons_of_pos hp]; rfl
    | false => dsimp only; rw [ih, List.filter_cons_of_neg (by rw [hp]; exact Bool.false_ne_true)]
end TD

namespace Dn
open PySem PySem.Spec PyProof.Rows L2 TD
noncomputable def b__law_draws : EnvS → Out :=
  (sqO (owO 2 (newD nilA))
  (sqO (stO 3 (cD (.int 7)))
  (sqO (loO (seqF (lstF (slcL (asSF (varD 0)) noP (someP (cD (.int 63)))))) (nmG 4)
  (sqO (stO 5 (callF absK (consA (varD 4) nilA)))
  (sqO (stO 3 (bin2 modD (callF intG (consA (bin2 addD (bin2 addD (bin2 mulD (varD 3) (cD (.int 48271))) (varD 5)) (cD (.int 11))) nilA)) (cD (.int 2147483647))))
  (ifO (asF (bin2 geD (varD 5) (bin2 powD (cD (.int 10)) (cD (.int 18)))))
  (loO (rng1F (cD (.int 60))) (nmG 6)
  (ifO (asF (bin2 gtD (varD 5) (cD (.int 0))))
  (sqO (appO 2 (bin2 modD (callF intG (consA (varD 5) nilA)) (cD (.int 1009))))
  (stO 5 (bin2 fdivD (varD 5) (cD (.int 1009)))))
  nxO))
  (appO 2 (bin2 modD (bin2 fdivD (callF intG (consA (bin2 addD (bin2 mulD (varD 3) (cD (.int 16807))) (cD (.int 5))) nilA)) (cD (.int 3))) (cD (.int 65521))))))))
  (sqO (loO (rng1F (varD 1)) (nmG 6)
  (ifO (asF (bin2 ltD (callF (fun ds => .ok (.int ds.length)) (ownD 2)) (varD 1)))
  (sqO (stO 3 (bin2 modD (callF intG (consA (bin2 addD (bin2 addD (bin2 mulD (varD 3) (cD (.int 69621))) (varD 6)) (cD (.int 1))) nilA)) (cD (.int 2147483647))))
  (appO 2 (bin2 modD (bin2 fdivD (callF intG (consA (varD 3) nilA)) (cD (.int 7))) (cD (.int 65521)))))
  nxO))
  (rtO (lstF (slcL (ownD 2) noP (someP (varD 1)))))))))
noncomputable def v__law_draws : List D → R D := fnR 7 b__law_draws
noncomputable def b_is_integer : EnvS → Out :=
  (rtO (andV (isiD "int" (varD 0)) (notV (isiD "bool" (varD 0)))))
noncomputable def v_is_integer : List D → R D := fnR 1 b_is_integer
noncomputable def b_divisor : EnvS → Out :=
  (sqO (parO 0 1 (consA (callF absK (consA (varD 0) nilA)) (consA (callF absK (consA (varD 1) nilA)) nilA)))
  (sqO (whX (asF (bin2 gtD (varD 1) (cD (.int 0))))
  (parO 0 1 (consA (varD 1) (consA (bin2 modD (varD 0) (varD 1)) nilA))))
  (rtO (varD 0))))
noncomputable def v_divisor : List D → R D := fnR 2 b_divisor
noncomputable def b_is_number : EnvS → Out :=
  (sqO (ifO (orB (notB (asF (isiD "tuple" (varD 0)))) (orB (asF (bin2 neD (callF lenK (consA (varD 0) nilA)) (cD (.int 2)))) (orB (notB (asF (callU 1 v_is_integer (consA (bin2 ixD (varD 0) (cD (.int 0))) nilA)))) (notB (asF (callU 1 v_is_integer (consA (bin2 ixD (varD 0) (cD (.int 1))) nilA)))))))
  (rtO (cD (.bool false)))
  nxO)
  (rtO (andV (bin2 geD (bin2 ixD (varD 0) (cD (.int 1))) (cD (.int 1))) (bin2 eqD (callU 2 v_divisor (consA (bin2 ixD (varD 0) (cD (.int 0))) (consA (bin2 ixD (varD 0) (cD (.int 1))) nilA))) (cD (.int 1))))))
noncomputable def v_is_number : List D → R D := fnR 1 b_is_number
noncomputable def b_check_numbers : EnvS → Out :=
  (ifO (notB (asF (callF allK (lcF (seqF (varD 0)) (nmG 1) yesB (callU 1 v_is_number (consA (varD 1) nilA)) [1]))))
  (fun ρ => .ex "BadNumber" ρ)
  nxO)
noncomputable def v_check_numbers : List D → R D := fnR 2 b_check_numbers
noncomputable def b_made : EnvS → Out :=
  (sqO (stO 2 (callU 2 v_divisor (consA (varD 0) (consA (varD 1) nilA))))
  (sqO (ifO (asF (bin2 ltD (varD 1) (cD (.int 0))))
  (stO 2 (bin2 subD (cD (.int 0)) (varD 2)))
  nxO)
  (rtO (tupD (consA (bin2 fdivD (varD 0) (varD 2)) (consA (bin2 fdivD (varD 1) (varD 2)) nilA))))))
noncomputable def v_made : List D → R D := fnR 3 b_made
noncomputable def b_sum_of : EnvS → Out :=
  (rtO (callU 2 v_made (consA (bin2 addD (bin2 mulD (bin2 ixD (varD 0) (cD (.int 0))) (bin2 ixD (varD 1) (cD (.int 1)))) (bin2 mulD (bin2 ixD (varD 1) (cD (.int 0))) (bin2 ixD (varD 0) (cD (.int 1))))) (consA (bin2 mulD (bin2 ixD (varD 0) (cD (.int 1))) (bin2 ixD (varD 1) (cD (.int 1)))) nilA))))
noncomputable def v_sum_of : List D → R D := fnR 2 b_sum_of
noncomputable def b_plus : EnvS → Out :=
  (sqO (exO (callU 1 v_check_numbers (consA (tupD (consA (varD 0) (consA (varD 1) nilA))) nilA)))
  (rtO (callU 2 v_sum_of (consA (varD 0) (consA (varD 1) nilA)))))
noncomputable def v_plus : List D → R D := fnR 2 b_plus
noncomputable def b_difference : EnvS → Out :=
  (rtO (callU 2 v_made (consA (bin2 subD (bin2 mulD (bin2 ixD (varD 0) (cD (.int 0))) (bin2 ixD (varD 1) (cD (.int 1)))) (bin2 mulD (bin2 ixD (varD 1) (cD (.int 0))) (bin2 ixD (varD 0) (cD (.int 1))))) (consA (bin2 mulD (bin2 ixD (varD 0) (cD (.int 1))) (bin2 ixD (varD 1) (cD (.int 1)))) nilA))))
noncomputable def v_difference : List D → R D := fnR 2 b_difference
noncomputable def b_minus : EnvS → Out :=
  (sqO (exO (callU 1 v_check_numbers (consA (tupD (consA (varD 0) (consA (varD 1) nilA))) nilA)))
  (rtO (callU 2 v_difference (consA (varD 0) (consA (varD 1) nilA)))))
noncomputable def v_minus : List D → R D := fnR 2 b_minus
noncomputable def b_product : EnvS → Out :=
  (rtO (callU 2 v_made (consA (bin2 mulD (bin2 ixD (varD 0) (cD (.int 0))) (bin2 ixD (varD 1) (cD (.int 0)))) (consA (bin2 mulD (bin2 ixD (varD 0) (cD (.int 1))) (bin2 ixD (varD 1) (cD (.int 1)))) nilA))))
noncomputable def v_product : List D → R D := fnR 2 b_product
noncomputable def b_times : EnvS → Out :=
  (sqO (exO (callU 1 v_check_numbers (consA (tupD (consA (varD 0) (consA (varD 1) nilA))) nilA)))
  (rtO (callU 2 v_product (consA (varD 0) (consA (varD 1) nilA)))))
noncomputable def v_times : List D → R D := fnR 2 b_times
noncomputable def b_quotient : EnvS → Out :=
  (rtO (callU 2 v_made (consA (bin2 mulD (bin2 ixD (varD 0) (cD (.int 0))) (bin2 ixD (varD 1) (cD (.int 1)))) (consA (bin2 mulD (bin2 ixD (varD 0) (cD (.int 1))) (bin2 ixD (varD 1) (cD (.int 0)))) nilA))))
noncomputable def v_quotient : List D → R D := fnR 2 b_quotient
noncomputable def b_over : EnvS → Out :=
  (sqO (exO (callU 1 v_check_numbers (consA (tupD (consA (varD 0) (consA (varD 1) nilA))) nilA)))
  (sqO (ifO (asF (bin2 eqD (bin2 ixD (varD 1) (cD (.int 0))) (cD (.int 0))))
  (fun ρ => .ex "BadNumber" ρ)
  nxO)
  (rtO (callU 2 v_quotient (consA (varD 0) (consA (varD 1) nilA))))))
noncomputable def v_over : List D → R D := fnR 2 b_over
noncomputable def b_order : EnvS → Out :=
  (sqO (stO 2 (bin2 subD (bin2 mulD (bin2 ixD (varD 0) (cD (.int 0))) (bin2 ixD (varD 1) (cD (.int 1)))) (bin2 mulD (bin2 ixD (varD 1) (cD (.int 0))) (bin2 ixD (varD 0) (cD (.int 1))))))
  (rtO (ifD (asF (bin2 eqD (varD 2) (cD (.int 0)))) (cD (.int 0)) (ifD (asF (bin2 gtD (varD 2) (cD (.int 0)))) (cD (.int 1)) (un1 negD (cD (.int 1)))))))
noncomputable def v_order : List D → R D := fnR 3 b_order
noncomputable def b_compare : EnvS → Out :=
  (sqO (exO (callU 1 v_check_numbers (consA (tupD (consA (varD 0) (consA (varD 1) nilA))) nilA)))
  (rtO (callU 2 v_order (consA (varD 0) (consA (varD 1) nilA)))))
noncomputable def v_compare : List D → R D := fnR 2 b_compare
noncomputable def b_ratio : EnvS → Out :=
  (sqO (ifO (orB (notB (asF (callU 1 v_is_integer (consA (varD 0) nilA)))) (orB (notB (asF (callU 1 v_is_integer (consA (varD 1) nilA)))) (asF (bin2 eqD (varD 1) (cD (.int 0))))))
  (fun ρ => .ex "BadNumber" ρ)
  nxO)
  (rtO (callU 2 v_made (consA (varD 0) (consA (varD 1) nilA)))))
noncomputable def v_ratio : List D → R D := fnR 2 b_ratio
noncomputable def b_turned : EnvS → Out :=
  (sqO (exO (callU 1 v_check_numbers (consA (tupD (consA (varD 0) nilA)) nilA)))
  (rtO (tupD (consA (bin2 subD (cD (.int 0)) (bin2 ixD (varD 0) (cD (.int 0)))) (consA (bin2 ixD (varD 0) (cD (.int 1))) nilA)))))
noncomputable def v_turned : List D → R D := fnR 1 b_turned
noncomputable def b__check_some : EnvS → Out :=
  (sqO (ifO (orB (notB (asF (isiD "tuple" (varD 0)))) (asF (bin2 eqD (callF lenK (consA (varD 0) nilA)) (cD (.int 0)))))
  (fun ρ => .ex "BadNumber" ρ)
  nxO)
  (exO (callU 1 v_check_numbers (consA (varD 0) nilA))))
noncomputable def v__check_some : List D → R D := fnR 1 b__check_some
noncomputable def b_least_of : EnvS → Out :=
  (sqO (stO 1 (bin2 ixD (varD 0) (cD (.int 0))))
  (sqO (loO (seqF (slcG (varD 0) (someP (cD (.int 1))) noP)) (nmG 2)
  (ifO (asF (bin2 ltD (callU 2 v_order (consA (varD 2) (consA (varD 1) nilA))) (cD (.int 0))))
  (stO 1 (varD 2))
  nxO))
  (rtO (varD 1))))
noncomputable def v_least_of : List D → R D := fnR 3 b_least_of
noncomputable def b_least_one : EnvS → Out :=
  (sqO (exO (callU 1 v__check_some (consA (varD 0) nilA)))
  (rtO (callU 1 v_least_of (consA (varD 0) nilA))))
noncomputable def v_least_one : List D → R D := fnR 1 b_least_one
noncomputable def b_greatest_of : EnvS → Out :=
  (sqO (stO 1 (bin2 ixD (varD 0) (cD (.int 0))))
  (sqO (loO (seqF (slcG (varD 0) (someP (cD (.int 1))) noP)) (nmG 2)
  (ifO (asF (bin2 gtD (callU 2 v_order (consA (varD 2) (consA (varD 1) nilA))) (cD (.int 0))))
  (stO 1 (varD 2))
  nxO))
  (rtO (varD 1))))
noncomputable def v_greatest_of : List D → R D := fnR 3 b_greatest_of
noncomputable def b_greatest_one : EnvS → Out :=
  (sqO (exO (callU 1 v__check_some (consA (varD 0) nilA)))
  (rtO (callU 1 v_greatest_of (consA (varD 0) nilA))))
noncomputable def v_greatest_one : List D → R D := fnR 1 b_greatest_one
noncomputable def b_text_by : EnvS → Out :=
  (rtO (ifD (asF (bin2 eqD (bin2 ixD (varD 0) (cD (.int 1))) (cD (.int 1)))) (callF strK (consA (bin2 ixD (varD 0) (cD (.int 0))) nilA)) (bin2 addD (bin2 addD (callF strK (consA (bin2 ixD (varD 0) (cD (.int 0))) nilA)) (cD (.str "/"))) (callF strK (consA (bin2 ixD (varD 0) (cD (.int 1))) nilA)))))
noncomputable def v_text_by : List D → R D := fnR 1 b_text_by
noncomputable def b_number_text : EnvS → Out :=
  (sqO (exO (callU 1 v_check_numbers (consA (tupD (consA (varD 0) nilA)) nilA)))
  (rtO (callU 1 v_text_by (consA (varD 0) nilA))))
noncomputable def v_number_text : List D → R D := fnR 1 b_number_text
noncomputable def b_integer_of : EnvS → Out :=
  (sqO (stO 1 (ifD (asF (bin2 eqD (slcG (varD 0) noP (someP (cD (.int 1)))) (cD (.str "-")))) (slcG (varD 0) (someP (cD (.int 1))) noP) (varD 0)))
  (sqO (ifO (orB (notB (asF (chD leD leD (cD (.int 1)) (callF lenK (consA (varD 1) nilA)) (cD (.int 300))))) (notB (asF (callF allK (lcF (seqF (varD 1)) (nmG 2) yesB (bin2 inG (varD 2) (cD (.str "0123456789"))) [2])))))
  (rtO (cD .none))
  nxO)
  (rtO (ifD (orB (asF (bin2 eqD (varD 0) (cD (.str "0")))) (asF (bin2 neD (bin2 ixD (varD 1) (cD (.int 0))) (cD (.str "0"))))) (callF intG (consA (varD 0) nilA)) (cD .none)))))
noncomputable def v_integer_of : List D → R D := fnR 3 b_integer_of
noncomputable def b_read_number : EnvS → Out :=
  (sqO (stO 1 (lstF (splF (varD 0) (cD (.str "/")))))
  (sqO (stO 2 (lstF (lcF (seqF (varD 1)) (nmG 4) yesB (callU 1 v_integer_of (consA (varD 4) nilA)) [4])))
  (sqO (ifO (orB (asF (bin2 gtD (callF lenK (consA (varD 1) nilA)) (cD (.int 2)))) (asF (bin2 inG (cD .none) (varD 2))))
  (rtO (cD .none))
  nxO)
  (sqO (ifO (asF (bin2 eqD (callF lenK (consA (varD 1) nilA)) (cD (.int 1))))
  (rtO (tupD (consA (bin2 ixD (varD 2) (cD (.int 0))) (consA (cD (.int 1)) nilA))))
  nxO)
  (sqO (stO 3 (tupD (consA (bin2 ixD (varD 2) (cD (.int 0))) (consA (bin2 ixD (varD 2) (cD (.int 1))) nilA))))
  (rtO (ifD (andB (asF (callU 1 v_is_number (consA (varD 3) nilA))) (asF (bin2 gtD (bin2 ixD (varD 3) (cD (.int 1))) (cD (.int 1))))) (varD 3) (cD .none))))))))
noncomputable def v_read_number : List D → R D := fnR 5 b_read_number
noncomputable def b_number_of : EnvS → Out :=
  (sqO (stO 1 (ifD (asF (isiD "str" (varD 0))) (callU 1 v_read_number (consA (varD 0) nilA)) (cD .none)))
  (sqO (ifO (asF (bin2 isND (varD 1) (cD .none)))
  (fun ρ => .ex "BadText" ρ)
  nxO)
  (rtO (varD 1))))
noncomputable def v_number_of : List D → R D := fnR 2 b_number_of
noncomputable def b_is_point : EnvS → Out :=
  (rtO (andV (isiD "tuple" (varD 0)) (andV (bin2 eqD (callF lenK (consA (varD 0) nilA)) (cD (.int 2))) (andV (callU 1 v_is_number (consA (bin2 ixD (varD 0) (cD (.int 0))) nilA)) (callU 1 v_is_number (consA (bin2 ixD (varD 0) (cD (.int 1))) nilA))))))
noncomputable def v_is_point : List D → R D := fnR 1 b_is_point
noncomputable def b_check_points : EnvS → Out :=
  (ifO (notB (asF (callF allK (lcF (seqF (varD 0)) (nmG 1) yesB (callU 1 v_is_point (consA (varD 1) nilA)) [1]))))
  (fun ρ => .ex "BadPoint" ρ)
  nxO)
noncomputable def v_check_points : List D → R D := fnR 2 b_check_points
noncomputable def b_sum_way : EnvS → Out :=
  (rtO (tupD (consA (callU 2 v_sum_of (consA (bin2 ixD (varD 0) (cD (.int 0))) (consA (bin2 ixD (varD 1) (cD (.int 0))) nilA))) (consA (callU 2 v_sum_of (consA (bin2 ixD (varD 0) (cD (.int 1))) (consA (bin2 ixD (varD 1) (cD (.int 1))) nilA))) nilA))))
noncomputable def v_sum_way : List D → R D := fnR 2 b_sum_way
noncomputable def b_added : EnvS → Out :=
  (sqO (exO (callU 1 v_check_points (consA (tupD (consA (varD 0) (consA (varD 1) nilA))) nilA)))
  (rtO (callU 2 v_sum_way (consA (varD 0) (consA (varD 1) nilA)))))
noncomputable def v_added : List D → R D := fnR 2 b_added
noncomputable def b_way_between : EnvS → Out :=
  (rtO (tupD (consA (callU 2 v_difference (consA (bin2 ixD (varD 0) (cD (.int 0))) (consA (bin2 ixD (varD 1) (cD (.int 0))) nilA))) (consA (callU 2 v_difference (consA (bin2 ixD (varD 0) (cD (.int 1))) (consA (bin2 ixD (varD 1) (cD (.int 1))) nilA))) nilA))))
noncomputable def v_way_between : List D → R D := fnR 2 b_way_between
noncomputable def b_taken : EnvS → Out :=
  (sqO (exO (callU 1 v_check_points (consA (tupD (consA (varD 0) (consA (varD 1) nilA))) nilA)))
  (rtO (callU 2 v_way_between (consA (varD 0) (consA (varD 1) nilA)))))
noncomputable def v_taken : List D → R D := fnR 2 b_taken
noncomputable def b_dot_by : EnvS → Out :=
  (rtO (callU 2 v_sum_of (consA (callU 2 v_product (consA (bin2 ixD (varD 0) (cD (.int 0))) (consA (bin2 ixD (varD 1) (cD (.int 0))) nilA))) (consA (callU 2 v_product (consA (bin2 ixD (varD 0) (cD (.int 1))) (consA (bin2 ixD (varD 1) (cD (.int 1))) nilA))) nilA))))
noncomputable def v_dot_by : List D → R D := fnR 2 b_dot_by
noncomputable def b_dot : EnvS → Out :=
  (sqO (exO (callU 1 v_check_points (consA (tupD (consA (varD 0) (consA (varD 1) nilA))) nilA)))
  (rtO (callU 2 v_dot_by (consA (varD 0) (consA (varD 1) nilA)))))
noncomputable def v_dot : List D → R D := fnR 2 b_dot
noncomputable def b_cross_by : EnvS → Out :=
  (rtO (callU 2 v_difference (consA (callU 2 v_product (consA (bin2 ixD (varD 0) (cD (.int 0))) (consA (bin2 ixD (varD 1) (cD (.int 1))) nilA))) (consA (callU 2 v_product (consA (bin2 ixD (varD 0) (cD (.int 1))) (consA (bin2 ixD (varD 1) (cD (.int 0))) nilA))) nilA))))
noncomputable def v_cross_by : List D → R D := fnR 2 b_cross_by
noncomputable def b_cross : EnvS → Out :=
  (sqO (exO (callU 1 v_check_points (consA (tupD (consA (varD 0) (consA (varD 1) nilA))) nilA)))
  (rtO (callU 2 v_cross_by (consA (varD 0) (consA (varD 1) nilA)))))
noncomputable def v_cross : List D → R D := fnR 2 b_cross
noncomputable def b_way_times : EnvS → Out :=
  (rtO (tupD (consA (callU 2 v_product (consA (varD 0) (consA (bin2 ixD (varD 1) (cD (.int 0))) nilA))) (consA (callU 2 v_product (consA (varD 0) (consA (bin2 ixD (varD 1) (cD (.int 1))) nilA))) nilA))))
noncomputable def v_way_times : List D → R D := fnR 2 b_way_times
noncomputable def b_stretched : EnvS → Out :=
  (sqO (exO (callU 1 v_check_numbers (consA (tupD (consA (varD 0) nilA)) nilA)))
  (sqO (exO (callU 1 v_check_points (consA (tupD (consA (varD 1) nilA)) nilA)))
  (rtO (callU 2 v_way_times (consA (varD 0) (consA (varD 1) nilA))))))
noncomputable def v_stretched : List D → R D := fnR 2 b_stretched
noncomputable def b__law_error : EnvS → Out :=
  (sqO (tryO ["BadNumber", "BadPoint", "BadText"]
  (ifO (asF (bin2 eqD (varD 0) (cD (.int 0))))
  (exO (callU 2 v_plus (consA (varD 1) (consA (varD 2) nilA))))
  (ifO (asF (bin2 eqD (varD 0) (cD (.int 1))))
  (exO (callU 2 v_minus (consA (varD 1) (consA (varD 2) nilA))))
  (ifO (asF (bin2 eqD (varD 0) (cD (.int 2))))
  (exO (callU 2 v_times (consA (varD 1) (consA (varD 2) nilA))))
  (ifO (asF (bin2 eqD (varD 0) (cD (.int 3))))
  (exO (callU 2 v_over (consA (varD 1) (consA (varD 2) nilA))))
  (ifO (asF (bin2 eqD (varD 0) (cD (.int 4))))
  (exO (callU 2 v_compare (consA (varD 1) (consA (varD 2) nilA))))
  (ifO (asF (bin2 eqD (varD 0) (cD (.int 5))))
  (exO (callU 2 v_ratio (consA (varD 1) (consA (varD 2) nilA))))
  (ifO (asF (bin2 eqD (varD 0) (cD (.int 6))))
  (exO (callU 1 v_turned (consA (varD 1) nilA)))
  (ifO (asF (bin2 eqD (varD 0) (cD (.int 7))))
  (exO (callU 1 v_least_one (consA (varD 1) nilA)))
  (ifO (asF (bin2 eqD (varD 0) (cD (.int 8))))
  (exO (callU 1 v_greatest_one (consA (varD 1) nilA)))
  (ifO (asF (bin2 eqD (varD 0) (cD (.int 9))))
  (exO (callU 1 v_number_text (consA (varD 1) nilA)))
  (ifO (asF (bin2 eqD (varD 0) (cD (.int 10))))
  (exO (callU 1 v_number_of (consA (varD 1) nilA)))
  (ifO (asF (bin2 eqD (varD 0) (cD (.int 11))))
  (exO (callU 2 v_added (consA (varD 1) (consA (varD 2) nilA))))
  (ifO (asF (bin2 eqD (varD 0) (cD (.int 12))))
  (exO (callU 2 v_taken (consA (varD 1) (consA (varD 2) nilA))))
  (ifO (asF (bin2 eqD (varD 0) (cD (.int 13))))
  (exO (callU 2 v_dot (consA (varD 1) (consA (varD 2) nilA))))
  (ifO (asF (bin2 eqD (varD 0) (cD (.int 14))))
  (exO (callU 2 v_cross (consA (varD 1) (consA (varD 2) nilA))))
  (exO (callU 2 v_stretched (consA (varD 1) (consA (varD 2) nilA))))))))))))))))))) (("BadNumber", (rtO (cD (.str "number")))) :: (("BadPoint", (rtO (cD (.str "point")))) :: (("BadText", (rtO (cD (.str "text")))) :: []))))
  (rtO (cD (.str "none"))))
noncomputable def v__law_error : List D → R D := fnR 3 b__law_error
noncomputable def b__law_refuses : EnvS → Out :=
  (sqO (unO (tupD (consA (tupD (consA (cD (.int 1)) (consA (cD (.int 2)) nilA))) (consA (tupD (consA (tupD (consA (cD (.int 1)) (consA (cD (.int 2)) nilA))) (consA (tupD (consA (cD (.int 0)) (consA (cD (.int 1)) nilA))) nilA))) nilA))) (tupG 2 (consG (nmG 0) (consG (nmG 1) nilG))))
  (sqO (loO (seqF (tupD (consA (cD .none) (consA (cD (.int 5)) (consA (tupD (consA (cD (.int 1)) nilA)) (consA (tupD (consA (cD (.int 2)) (consA (cD (.int 4)) nilA))) (consA (tupD (consA (cD (.int 1)) (consA (cD (.int 0)) nilA))) (consA (tupD (consA (cD (.int 1)) (consA (un1 negD (cD (.int 2))) nilA))) (consA (tupD (consA (cD (.bool true)) (consA (cD (.int 1)) nilA))) (consA (tupD (consA (cD (.int 1)) (consA (cD (.bool true)) nilA))) (consA (lstF (newD (consA (cD (.int 1)) (consA (cD (.int 2)) nilA)))) (consA (tupD (consA (cD (.str "1")) (consA (cD (.int 2)) nilA))) (consA (tupD (consA (cD (.int 0)) (consA (cD (.int 2)) nilA))) nilA))))))))))))) (nmG 2)
  (sqO (ifO (orB (asF (callU 1 v_is_number (consA (varD 2) nilA))) (orB (asF (bin2 neD (lstF (lcF (seqF (tupD (consA (cD (.int 0)) (consA (cD (.int 1)) (consA (cD (.int 2)) (consA (cD (.int 3)) (consA (cD (.int 4)) (consA (cD (.int 6)) (consA (cD (.int 9)) nilA))))))))) (nmG 5) yesB (callU 3 v__law_error (consA (varD 5) (consA (varD 2) (consA (varD 0) nilA)))) [5])) (lstF (repL (newD (consA (cD (.str "number")) nilA)) (cD (.int 7)))))) (asF (bin2 neD (lstF (lcF (rng1F (cD (.int 5))) (nmG 5) yesB (callU 3 v__law_error (consA (varD 5) (consA (varD 0) (consA (varD 2) nilA)))) [5])) (lstF (repL (newD (consA (cD (.str "number")) nilA)) (cD (.int 5))))))))
  (rtO (cD (.bool false)))
  nxO)
  (sqO (ifO (orB (asF (bin2 neD (lstF (lcF (seqF (tupD (consA (cD (.int 7)) (consA (cD (.int 8)) nilA)))) (nmG 5) yesB (callU 3 v__law_error (consA (varD 5) (consA (tupD (consA (varD 0) (consA (varD 2) nilA))) (consA (cD .none) nilA)))) [5])) (lstF (repL (newD (consA (cD (.str "number")) nilA)) (cD (.int 2)))))) (asF (bin2 neD (callU 3 v__law_error (consA (cD (.int 15)) (consA (varD 2) (consA (varD 1) nilA)))) (cD (.str "number")))))
  (rtO (cD (.bool false)))
  nxO)
  (ifO (orB (asF (bin2 neD (lstF (lcF (seqF (tupD (consA (cD (.int 11)) (consA (cD (.int 12)) (consA (cD (.int 13)) (consA (cD (.int 14)) nilA)))))) (nmG 5) yesB (callU 3 v__law_error (consA (varD 5) (consA (tupD (consA (varD 2) (consA (varD 0) nilA))) (consA (varD 1) nilA)))) [5])) (lstF (repL (newD (consA (cD (.str "point")) nilA)) (cD (.int 4)))))) (asF (bin2 neD (lstF (slcL (lcF (seqF (tupD (consA (cD (.int 11)) (consA (cD (.int 12)) (consA (cD (.int 13)) (consA (cD (.int 14)) (consA (cD (.int 15)) nilA))))))) (nmG 5) yesB (callU 3 v__law_error (consA (varD 5) (consA (varD 1) (consA (tupD (consA (varD 0) (consA (varD 2) nilA))) nilA)))) [5]) noP (someP (cD (.int 4))))) (lstF (repL (newD (consA (cD (.str "point")) nilA)) (cD (.int 4)))))))
  (rtO (cD (.bool false)))
  nxO))))
  (sqO (ifO (orB (asF (bin2 neD (callU 3 v__law_error (consA (cD (.int 15)) (consA (varD 0) (consA (tupD (consA (varD 0) nilA)) nilA)))) (cD (.str "point")))) (orB (asF (bin2 neD (lstF (lcF (seqF (tupD (consA (cD (.int 7)) (consA (cD (.int 8)) nilA)))) (nmG 5) yesB (callU 3 v__law_error (consA (varD 5) (consA (tupD nilA) (consA (cD .none) nilA)))) [5])) (lstF (repL (newD (consA (cD (.str "number")) nilA)) (cD (.int 2)))))) (asF (bin2 neD (callU 3 v__law_error (consA (cD (.int 3)) (consA (varD 0) (consA (tupD (consA (cD (.int 0)) (consA (cD (.int 1)) nilA))) nilA)))) (cD (.str "number"))))))
  (rtO (cD (.bool false)))
  nxO)
  (sqO (ifO (asF (bin2 neD (lstF (lcF (newD (consA (tupD (consA (cD (.int 1)) (consA (cD (.int 0)) nilA))) (consA (tupD (consA (cD (.bool true)) (consA (cD (.int 2)) nilA))) (consA (tupD (consA (cD (.int 1)) (consA (cD .none) nilA))) (consA (tupD (consA (cD (.str "1")) (consA (cD (.int 2)) nilA))) nilA))))) (tupG 2 (consG (nmG 3) (consG (nmG 4) nilG))) yesB (callU 3 v__law_error (consA (cD (.int 5)) (consA (varD 3) (consA (varD 4) nilA)))) [3, 4])) (lstF (repL (newD (consA (cD (.str "number")) nilA)) (cD (.int 4))))))
  (rtO (cD (.bool false)))
  nxO)
  (rtO (bin2 eqD (lstF (lcF (seqF (tupD (consA (cD .none) (consA (cD (.int 5)) (consA (cD (.str "")) (consA (cD (.str "1/1")) (consA (cD (.str "2/4")) (consA (cD (.str "1/-2")) (consA (cD (.str "01")) (consA (cD (.str "-0")) (consA (cD (.str "1/0")) (consA (cD (.str "1/2/3")) (consA (cD (.str " 1")) (consA (cD (.str "+1")) (consA (cD (.str "1.5")) (consA (cD (.str "a")) (consA (cD (.str "0/2")) (consA (cD (.str "-")) nilA)))))))))))))))))) (nmG 2) yesB (callU 3 v__law_error (consA (cD (.int 10)) (consA (varD 2) (consA (cD .none) nilA)))) [2])) (lstF (repL (newD (consA (cD (.str "text")) nilA)) (cD (.int 16))))))))))
noncomputable def v__law_refuses : List D → R D := fnR 6 b__law_refuses
noncomputable def b__law_is : EnvS → Out :=
  (rtO (andV (callU 1 v_is_number (consA (varD 0) nilA)) (andV (bin2 eqD (bin2 mulD (bin2 ixD (varD 0) (cD (.int 0))) (varD 2)) (bin2 mulD (varD 1) (bin2 ixD (varD 0) (cD (.int 1))))) (bin2 gtD (bin2 ixD (varD 0) (cD (.int 1))) (cD (.int 0))))))
noncomputable def v__law_is : List D → R D := fnR 3 b__law_is
noncomputable def b_law : EnvS → Out :=
  (sqO (stO 1 (callU 2 v__law_draws (consA (varD 0) (consA (cD (.int 120)) nilA))))
  (sqO (owO 2 (newD nilA))
  (sqO (loO (rng1F (cD (.int 12))) (nmG 3)
  (sqO (parO 4 5 (consA (bin2 subD (bin2 modD (callF intG (consA (bin2 ixD (varD 1) (varD 3)) nilA)) (cD (.int 121))) (cD (.int 60))) (consA (bin2 subD (bin2 modD (callF intG (consA (bin2 ixD (varD 1) (bin2 addD (cD (.int 20)) (varD 3))) nilA)) (cD (.int 24))) (cD (.int 12))) nilA)))
  (sqO (ifO (asF (bin2 eqD (varD 5) (cD (.int 0))))
  (stO 5 (bin2 addD (bin2 powD (cD (.int 10)) (cD (.int 20))) (varD 3)))
  nxO)
  (sqO (stO 6 (callU 2 v_ratio (consA (varD 4) (consA (varD 5) nilA))))
  (sqO (ifO (orB (notB (asF (callU 3 v__law_is (consA (varD 6) (consA (bin2 mulD (varD 4) (ifD (asF (bin2 gtD (varD 5) (cD (.int 0)))) (cD (.int 1)) (un1 negD (cD (.int 1))))) (consA (callF absK (consA (varD 5) nilA)) nilA)))))) (orB (asF (bin2 neD (callU 2 v_ratio (consA (bin2 mulD (varD 4) (cD (.int 7))) (consA (bin2 mulD (varD 5) (cD (.int 7))) nilA))) (varD 6))) (asF (bin2 neD (callU 1 v_turned (consA (varD 6) nilA)) (callU 2 v_ratio (consA (bin2 subD (cD (.int 0)) (varD 4)) (consA (varD 5) nilA)))))))
  (rtO (cD (.bool false)))
  nxO)
  (sqO (stO 7 (bin2 addD (callF strK (consA (bin2 ixD (varD 6) (cD (.int 0))) nilA)) (ifD (asF (bin2 gtD (bin2 ixD (varD 6) (cD (.int 1))) (cD (.int 1)))) (bin2 addD (cD (.str "/")) (callF strK (consA (bin2 ixD (varD 6) (cD (.int 1))) nilA))) (cD (.str "")))))
  (sqO (ifO (orB (asF (bin2 neD (callU 1 v_number_text (consA (varD 6) nilA)) (varD 7))) (asF (bin2 neD (callU 1 v_number_of (consA (varD 7) nilA)) (varD 6))))
  (rtO (cD (.bool false)))
  nxO)
  (appO 2 (varD 6)))))))))
  (sqO (loO (ownD 2) (nmG 6)
  (loO (seqF (lstF (slcL (ownD 2) noP (someP (cD (.int 8)))))) (nmG 8)
  (sqO (ifO (orB (notB (asF (callU 3 v__law_is (consA (callU 2 v_plus (consA (varD 6) (consA (varD 8) nilA))) (consA (bin2 addD (bin2 mulD (bin2 ixD (varD 6) (cD (.int 0))) (bin2 ixD (varD 8) (cD (.int 1)))) (bin2 mulD (bin2 ixD (varD 8) (cD (.int 0))) (bin2 ixD (varD 6) (cD (.int 1))))) (consA (bin2 mulD (bin2 ixD (varD 6) (cD (.int 1))) (bin2 ixD (varD 8) (cD (.int 1)))) nilA)))))) (notB (asF (callU 3 v__law_is (consA (callU 2 v_minus (consA (varD 6) (consA (varD 8) nilA))) (consA (bin2 subD (bin2 mulD (bin2 ixD (varD 6) (cD (.int 0))) (bin2 ixD (varD 8) (cD (.int 1)))) (bin2 mulD (bin2 ixD (varD 8) (cD (.int 0))) (bin2 ixD (varD 6) (cD (.int 1))))) (consA (bin2 mulD (bin2 ixD (varD 6) (cD (.int 1))) (bin2 ixD (varD 8) (cD (.int 1)))) nilA)))))))
  (rtO (cD (.bool false)))
  nxO)
  (sqO (ifO (notB (asF (callU 3 v__law_is (consA (callU 2 v_times (consA (varD 6) (consA (varD 8) nilA))) (consA (bin2 mulD (bin2 ixD (varD 6) (cD (.int 0))) (bin2 ixD (varD 8) (cD (.int 0)))) (consA (bin2 mulD (bin2 ixD (varD 6) (cD (.int 1))) (bin2 ixD (varD 8) (cD (.int 1)))) nilA))))))
  (rtO (cD (.bool false)))
  nxO)
  (sqO (ifO (andB (asF (bin2 neD (bin2 ixD (varD 8) (cD (.int 0))) (cD (.int 0)))) (asF (bin2 neD (callU 2 v_times (consA (callU 2 v_over (consA (varD 6) (consA (varD 8) nilA))) (consA (varD 8) nilA))) (varD 6))))
  (rtO (cD (.bool false)))
  nxO)
  (sqO (stO 9 (bin2 subD (bin2 mulD (bin2 ixD (varD 6) (cD (.int 0))) (bin2 ixD (varD 8) (cD (.int 1)))) (bin2 mulD (bin2 ixD (varD 8) (cD (.int 0))) (bin2 ixD (varD 6) (cD (.int 1))))))
  (ifO (orB (asF (bin2 neD (callU 2 v_compare (consA (varD 6) (consA (varD 8) nilA))) (ifD (asF (bin2 eqD (varD 9) (cD (.int 0)))) (cD (.int 0)) (ifD (asF (bin2 gtD (varD 9) (cD (.int 0)))) (cD (.int 1)) (un1 negD (cD (.int 1))))))) (asF (bin2 neD (bin2 eqD (varD 9) (cD (.int 0))) (bin2 eqD (varD 6) (varD 8)))))
  (rtO (cD (.bool false)))
  nxO)))))))
  (sqO (unO (tupD (consA (callU 1 v_least_one (consA (callF (fun ds => .ok (.tuple ds)) (ownD 2)) nilA)) (consA (callU 1 v_greatest_one (consA (callF (fun ds => .ok (.tuple ds)) (ownD 2)) nilA)) nilA))) (tupG 2 (consG (nmG 10) (consG (nmG 11) nilG))))
  (sqO (ifO (orB (asF (inL true (varD 10) (ownD 2))) (orB (asF (inL true (varD 11) (ownD 2))) (asF (callF anyK (lcF (ownD 2) (nmG 6) yesB (orV (bin2 ltD (callU 2 v_compare (consA (varD 6) (consA (varD 10) nilA))) (cD (.int 0))) (bin2 gtD (callU 2 v_compare (consA (varD 6) (consA (varD 11) nilA))) (cD (.int 0)))) [6])))))
  (rtO (cD (.bool false)))
  nxO)
  (sqO (loO (rng1F (cD (.int 6))) (nmG 3)
  (sqO (par3O 6 8 12 (consA (tupD (consA (ixL (ownD 2) (varD 3)) (consA (ixL (ownD 2) (bin2 addD (varD 3) (cD (.int 1)))) nilA))) (consA (tupD (consA (ixL (ownD 2) (bin2 addD (varD 3) (cD (.int 3)))) (consA (ixL (ownD 2) (bin2 addD (varD 3) (cD (.int 5)))) nilA))) (consA (ixL (ownD 2) (bin2 addD (varD 3) (cD (.int 2)))) nilA))))
  (sqO (ifO (orB (asF (bin2 neD (callU 2 v_added (consA (varD 6) (consA (varD 8) nilA))) (tupD (consA (callU 2 v_plus (consA (bin2 ixD (varD 6) (cD (.int 0))) (consA (bin2 ixD (varD 8) (cD (.int 0))) nilA))) (consA (callU 2 v_plus (consA (bin2 ixD (varD 6) (cD (.int 1))) (consA (bin2 ixD (varD 8) (cD (.int 1))) nilA))) nilA))))) (asF (bin2 neD (callU 2 v_taken (consA (varD 6) (consA (varD 8) nilA))) (tupD (consA (callU 2 v_minus (consA (bin2 ixD (varD 6) (cD (.int 0))) (consA (bin2 ixD (varD 8) (cD (.int 0))) nilA))) (consA (callU 2 v_minus (consA (bin2 ixD (varD 6) (cD (.int 1))) (consA (bin2 ixD (varD 8) (cD (.int 1))) nilA))) nilA))))))
  (rtO (cD (.bool false)))
  nxO)
  (sqO (ifO (orB (asF (bin2 neD (callU 2 v_stretched (consA (varD 12) (consA (varD 6) nilA))) (tupD (consA (callU 2 v_times (consA (varD 12) (consA (bin2 ixD (varD 6) (cD (.int 0))) nilA))) (consA (callU 2 v_times (consA (varD 12) (consA (bin2 ixD (varD 6) (cD (.int 1))) nilA))) nilA))))) (asF (bin2 neD (callU 2 v_dot (consA (varD 6) (consA (varD 8) nilA))) (callU 2 v_plus (consA (callU 2 v_times (consA (bin2 ixD (varD 6) (cD (.int 0))) (consA (bin2 ixD (varD 8) (cD (.int 0))) nilA))) (consA (callU 2 v_times (consA (bin2 ixD (varD 6) (cD (.int 1))) (consA (bin2 ixD (varD 8) (cD (.int 1))) nilA))) nilA))))))
  (rtO (cD (.bool false)))
  nxO)
  (ifO (orB (asF (bin2 neD (callU 2 v_cross (consA (varD 6) (consA (varD 8) nilA))) (callU 2 v_minus (consA (callU 2 v_times (consA (bin2 ixD (varD 6) (cD (.int 0))) (consA (bin2 ixD (varD 8) (cD (.int 1))) nilA))) (consA (callU 2 v_times (consA (bin2 ixD (varD 6) (cD (.int 1))) (consA (bin2 ixD (varD 8) (cD (.int 0))) nilA))) nilA))))) (asF (bin2 neD (callU 2 v_cross (consA (varD 6) (consA (varD 6) nilA))) (tupD (consA (cD (.int 0)) (consA (cD (.int 1)) nilA))))))
  (rtO (cD (.bool false)))
  nxO)))))
  (rtO (fun _ => v__law_refuses [])))))))))
noncomputable def v_law : List D → R D := fnR 13 b_law
end Dn

namespace Mt
open PySem PySem.Spec PyProof.Rows L2 TD Dn
def N (q : Rat) : D := .tuple [.int q.num, .int q.den]
theorem okI (a : Int) : okD (.int a) = true := rfl
theorem okN (q : Rat) : okD (N q) = true := rfl
theorem eqv_int (a b : Int) : PyData.eqv (.int a) (.int b) = decide (a = b) := by
  first | rfl | (simp [PyData.eqv]) 
theorem eqD_int (a b : Int) : eqD (.int a) (.int b) = .ok (.bool (decide (a = b))) := by
  unfold eqD; rw [okI, okI, eqv_int]; rfl
theorem neD_int (a b : Int) : neD (.int a) (.int b) = .ok (.bool (!decide (a = b))) := by
  unfold neD; rw [okI, okI, eqv_int]; rfl
theorem fmodN (a b : Nat) : Int.fmod (a : Int) (b : Int) = ((a % b : Nat) : Int) := by
  rw [Int.fmod_eq_emod_of_nonneg _ (Int.natCast_nonneg b)]; rfl
theorem gcd_loop : ∀ (b a : Nat), ∃ n, whO (asF (bin2 gtD (varD 1) (cD (.int 0)))) (parO 0 1 (consA (varD 1) (consA (bin2 modD (varD 0) (varD 1)) nilA))) n [some (.pu (.int a)), some (.pu (.int b))] = .nx [some (.pu (.int (Nat.gcd a b : Nat))), some (.pu (.int 0))] := by
  intro b
  induction b using Nat.strongRecOn with
  | _ b ih =>
    intro a
    by_cases h : b = 0
    · subst h
      exact ⟨1, by simp [whO]⟩
    · obtain ⟨n, e⟩ := ih (a % b) (Nat.mod_lt _ (Nat.pos_of_ne_zero h)) b
      refine ⟨n + 1, ?_⟩
      have hb : (0:Int) < (b : Int) := by omega
      have hb' : decide ((b : Int) ≠ 0) = true := by simp [h]
      have hg : decide ((0:Int) < (b : Int)) = true := decide_eq_true hb
      have e1 : parO 0 1 (consA (varD 1) (consA (bin2 modD (varD 0) (varD 1)) nilA)) [some (.pu (.int a)), some (.pu (.int b))] = .nx [some (.pu (.int b)), some (.pu (.int (a % b : Nat)))] := by
        simp only [parO_ap, consA_ap, varD_succ, varD_zero, bin2_ap, nilA_ap, k2_ok, modD_int, hb', if_true, cnK_ok, parK_ok, List.set, fmodN]
      have e0 : asF (bin2 gtD (varD 1) (cD (.int 0))) [some (.pu (.int a)), some (.pu (.int b))] = .ok true := by
        simp only [asF_ap, varD_succ, varD_zero, bin2_ap, cD_ap, k2_ok, gtD_int, hg, asB_ok]
      rw [whO, e0, R.ok_out, if_pos rfl, e1]
      rw [Nat.gcd_comm a b, Nat.gcd_rec b a]
      rw [Nat.gcd_comm] at e
      exact e
theorem divisor_eq (a b : Int) : v_divisor [.int a, .int b] = .ok (.int (Int.gcd a b)) := by
  have ha : (if a < 0 then -a else a) = (a.natAbs : Int) := by split <;> omega
  have hb : (if b < 0 then -b else b) = (b.natAbs : Int) := by split <;> omega
  obtain ⟨n, e⟩ := gcd_loop b.natAbs a.natAbs
  have e2 := whX_eq n e (by intro h; cases h)
  show fnK (b_divisor [some (.pu (.int a)), some (.pu (.int b))]) = _
  unfold b_divisor
  simp [ha, hb, e2]
  rfl
end Mt

namespace Mt
open PySem PySem.Spec PyProof.Rows L2 TD Dn
theorem eqv_N (p q : Rat) : PyData.eqv (N p) (N q) = decide (p = q) := by
  have h : PyData.eqv (N p) (N q) = (decide (p.num = q.num) && decide ((p.den : Int) = q.den)) := by
    unfold N
    rw [show PyData.eqv (.tuple [.int p.num, .int p.den]) (.tuple [.int q.num, .int q.den]) = PyData.eqvAll [.int p.num, .int p.den] [.int q.num, .int q.den] by rw [PyData.eqv]]
    rw [PyData.eqvAll, PyData.eqvAll, PyData.eqvAll, eqv_int, eqv_int, Bool.and_true]
  rw [h]
  by_cases e : p = q
  · subst e; simp
  · rw [decide_eq_false e]
    by_cases e1 : p.num = q.num
    · rw [decide_eq_true e1]
      rw [Bool.true_and]
      apply decide_eq_false
      intro e2
      exact e (Rat.ext e1 (by omega))
    · rw [decide_eq_false e1]; rfl
theorem isint_int (a : Int) : v_is_integer [.int a] = .ok (.bool true) := by
  show fnK (b_is_integer [some (.pu (.int a))]) = _
  unfold b_is_integer
  simp [isiK, tyName, kit_ii, kit_ib]
theorem isint_other {d : D} (h1 : isI d = false ∨ isB d = true) (hd : isDict d = false) : v_is_integer [d] = .ok (.bool false) := by
  show fnK (b_is_integer [some (.pu d)]) = _
  unfold b_is_integer
  cases d <;> first | (cases hd; done) | (simp [isI, isB] at h1; done) | simp [isiK, tyName, kit_ii, kit_ib, kit_bi, kit_bb, kit_ti, kit_li, kit_ni, kit_si]
theorem isnum_pair (a b : Int) : v_is_number [.tuple [.int a, .int b]] = .ok (.bool (decide (1 ≤ b) && decide ((Int.gcd a b : Int) = 1))) := by
  show fnK (b_is_number [some (.pu (.tuple [.int a, .int b]))]) = _
  unfold b_is_number
  by_cases h : 1 ≤ b
  · simp [isiK, tyName, kit_tt, neD_int, isint_int, divisor_eq, eqD_int, h]
  · simp [isiK, tyName, kit_tt, neD_int, isint_int, divisor_eq, eqD_int, h]
theorem isnum_N (q : Rat) : v_is_number [N q] = .ok (.bool true) := by
  unfold N
  rw [isnum_pair]
  have h1 : (1 : Int) ≤ q.den := by have := q.den_pos; omega
  have h2 : (Int.gcd q.num q.den : Int) = 1 := by
    have := q.reduced
    show ((Nat.gcd q.num.natAbs (q.den : Int).natAbs : Nat) : Int) = 1
    rw [Int.natAbs_natCast, show Nat.gcd q.num.natAbs q.den = 1 from this]; rfl
  rw [decide_eq_true h1, decide_eq_true h2]; rfl
/-! ### sizes -/
def Bd (k : Nat) (q : Rat) : Prop := q.num.natAbs < 2 ^ k ∧ q.den < 2 ^ k
theorem log2_le {x k : Nat} (h : x < 2 ^ k) : x.log2 ≤ k := by
  by_cases e : x = 0
  · subst e; simp
  · exact Nat.le_of_lt ((Nat.log2_lt e).mpr h)
theorem mulOk_of {a b : Int} {k l : Nat} (ha : a.natAbs < 2 ^ k) (hb : b.natAbs < 2 ^ l) (h : k + l < 1000000) : mulOk a b = true := by
  unfold mulOk
  have := log2_le ha
  have := log2_le hb
  apply decide_eq_true
  omega
theorem mulD_ok {a b : Int} {k l : Nat} (ha : a.natAbs < 2 ^ k) (hb : b.natAbs < 2 ^ l) (h : k + l < 1000000) : mulD (.int a) (.int b) = .ok (.int (a * b)) := by
  rw [mulD_int, mulOk_of ha hb h]; rfl
theorem mul_lt {a b : Int} {k l : Nat} (ha : a.natAbs < 2 ^ k) (hb : b.natAbs < 2 ^ l) : (a * b).natAbs < 2 ^ (k + l) := by
  rw [Int.natAbs_mul, Nat.pow_add]
  exact Nat.mul_lt_mul'' ha hb
theorem add_lt {a b : Int} {k : Nat} (ha : a.natAbs < 2 ^ k) (hb : b.natAbs < 2 ^ k) : (a + b).natAbs < 2 ^ (k + 1) := by
  rw [Nat.pow_succ]; omega
theorem sub_lt {a b : Int} {k : Nat} (ha : a.natAbs < 2 ^ k) (hb : b.natAbs < 2 ^ k) : (a - b).natAbs < 2 ^ (k + 1) := by
  rw [Nat.pow_succ]; omega
theorem lt_up {a k l : Nat} (h : a < 2 ^ k) (hl : k ≤ l) : a < 2 ^ l := Nat.lt_of_lt_of_le h (Nat.pow_le_pow_right (by decide) hl)
theorem Bd.up {k l : Nat} {q : Rat} (h : Bd k q) (hl : k ≤ l) : Bd l q := ⟨lt_up h.1 hl, lt_up h.2 hl⟩
/-! ### made -/
theorem made_core {a b c : Int} (hc : c = if b < 0 then -(Int.gcd a b : Int) else Int.gcd a b) (hb : b ≠ 0) :
    ∃ n d : Int, a = n * c ∧ b = d * c ∧ 0 < d ∧ Int.gcd n d = 1 ∧ c ≠ 0 := by
  have hg : (Int.gcd a b : Int) ≠ 0 := by
    intro h
    have : Int.gcd a b = 0 := by omega
    exact hb (Int.gcd_eq_zero_iff.mp this).2
  obtain ⟨n, hn⟩ := Int.gcd_dvd_left a b
  obtain ⟨d, hd⟩ := Int.gcd_dvd_right a b
  have hc0 : c ≠ 0 := by rw [hc]; split <;> omega
  have key : ∀ n d : Int, a = n * c → b = d * c → Int.gcd n d = 1 := by
    intro n d e1 e2
    have e := Int.gcd_mul_right n c d
    rw [← e1, ← e2] at e
    have e3 : c.natAbs = Int.gcd a b := by rw [hc]; split <;> omega
    rw [e3] at e
    have hpos : 0 < Int.gcd a b := by omega
    exact Nat.eq_of_mul_eq_mul_right hpos (by rw [Nat.one_mul]; exact e.symm)
  by_cases hneg : b < 0
  · rw [if_pos hneg] at hc
    have h1 : a = -n * c := by rw [hc, Int.neg_mul_neg, Int.mul_comm]; exact hn
    have h2 : b = -d * c := by rw [hc, Int.neg_mul_neg, Int.mul_comm]; exact hd
    refine ⟨-n, -d, h1, h2, ?_, key _ _ h1 h2, hc0⟩
    have hcneg : c < 0 := by omega
    rcases Int.lt_trichotomy (-d) 0 with h | h | h
    · have := Int.mul_pos_of_neg_of_neg h hcneg; omega
    · rw [h] at h2; omega
    · exact h
  · rw [if_neg hneg] at hc
    have h1 : a = n * c := by rw [hc, Int.mul_comm]; exact hn
    have h2 : b = d * c := by rw [hc, Int.mul_comm]; exact hd
    refine ⟨n, d, h1, h2, ?_, key _ _ h1 h2, hc0⟩
    have hcpos : 0 < c := by omega
    rcases Int.lt_trichotomy d 0 with h | h | h
    · have := Int.mul_neg_of_neg_of_pos h hcpos; omega
    · rw [h] at h2; omega
    · exact h
theorem fdiv_mul {n c : Int} (h : c ≠ 0) : (n * c).fdiv c = n := Int.mul_fdiv_cancel n h
theorem divInt_N {n d c : Int} (hd : 0 < d) (hg : Int.gcd n d = 1) (hc : c ≠ 0) : (Rat.divInt (n * c) (d * c)).num = n ∧ ((Rat.divInt (n * c) (d * c)).den : Int) = d := by
  rw [Rat.divInt_mul_right hc]
  obtain ⟨m, rfl⟩ := Int.eq_ofNat_of_zero_le (Int.le_of_lt hd)
  have nz : m ≠ 0 := by omega
  have co : n.natAbs.Coprime m := by
    have hg' : Nat.gcd n.natAbs ((m : Nat) : Int).natAbs = 1 := hg
    rw [Int.natAbs_natCast] at hg'; exact hg'
  rw [← Rat.mk_eq_divInt (nz := nz) (c := co)]
  exact ⟨rfl, rfl⟩
theorem made_eq {a b : Int} (hb : b ≠ 0) (hs : b.natAbs < 2 ^ 8000) : v_made [.int a, .int b] = .ok (N (Rat.divInt a b)) := by
  obtain ⟨n, d, ha, hbd, hd, hg, hc⟩ := made_core (a := a) rfl hb
  generalize hcc : (if b < 0 then -(Int.gcd a b : Int) else Int.gcd a b) = c at ha hbd hc
  have hN : N (Rat.divInt a b) = .tuple [.int (a.fdiv c), .int (b.fdiv c)] := by
    have e := divInt_N (n := n) hd hg hc
    rw [← ha, ← hbd] at e
    unfold N
    rw [e.1, e.2]
    rw [show a.fdiv c = n by rw [ha]; exact fdiv_mul hc, show b.fdiv c = d by rw [hbd]; exact fdiv_mul hc]
  have hcs : c.natAbs < 2 ^ 8000 := by
    have : c.natAbs ≤ b.natAbs := Nat.le_of_dvd (by omega) (Int.natAbs_dvd_natAbs.mpr ⟨d, by rw [Int.mul_comm]; exact hbd⟩)
    omega
  have hok : divOk c = true := by
    unfold divOk
    have := log2_le hcs
    rw [decide_eq_true hc, decide_eq_true (by omega)]; rfl
  rw [hN]
  show fnK (b_made [some (.pu (.int a)), some (.pu (.int b)), none]) = _
  unfold b_made
  by_cases hneg : b < 0
  · rw [if_pos hneg] at hcc
    subst hcc
    simp [divisor_eq, hneg, fdivD_int, hok]
  · rw [if_neg hneg] at hcc
    subst hcc
    simp [divisor_eq, hneg, fdivD_int, hok]
theorem divInt_bd {a b : Int} (hb : b ≠ 0) : (Rat.divInt a b).num.natAbs ≤ a.natAbs ∧ (Rat.divInt a b).den ≤ b.natAbs := by
  obtain ⟨n, d, ha, hbd, hd, hg, hc⟩ := made_core (a := a) rfl hb
  generalize hcc : (if b < 0 then -(Int.gcd a b : Int) else Int.gcd a b) = c at ha hbd hc
  have e := divInt_N (n := n) hd hg hc
  rw [← ha, ← hbd] at e
  have h1 : 1 ≤ c.natAbs := by omega
  refine ⟨?_, ?_⟩
  · rw [e.1, ha, Int.natAbs_mul]; exact Nat.le_mul_of_pos_right _ h1
  · have : (Rat.divInt a b).den = d.natAbs := by omega
    rw [this, hbd, Int.natAbs_mul]; exact Nat.le_mul_of_pos_right _ h1
theorem divInt_cross {a b : Int} (hb : b ≠ 0) : (Rat.divInt a b).num * b = a * (Rat.divInt a b).den := by
  have h := Rat.num_divInt_den (Rat.divInt a b)
  have hd : ((Rat.divInt a b).den : Int) ≠ 0 := by have := (Rat.divInt a b).den_pos; omega
  exact (Rat.divInt_eq_divInt_iff hd hb).mp h
end Mt

namespace Mt
open PySem PySem.Spec PyProof.Rows L2 TD Dn
@[simp] theorem ixN0 (q : Rat) : ixD (N q) (.int 0) = .ok (.int q.num) := rfl
@[simp] theorem ixN1 (q : Rat) : ixD (N q) (.int 1) = .ok (.int q.den) := rfl
section
variable {p q : Rat} {k l : Nat}
theorem den_ne (q : Rat) : (q.den : Int) ≠ 0 := by have := q.den_pos; omega
theorem natAbs_den (q : Rat) : ((q.den : Int)).natAbs = q.den := Int.natAbs_natCast _
theorem dB (h : Bd k q) : ((q.den : Int)).natAbs < 2 ^ k := by rw [natAbs_den]; exact h.2
theorem add_div (p q : Rat) : p + q = Rat.divInt (p.num * q.den + q.num * p.den) (p.den * q.den) := by
  have h := Rat.divInt_add_divInt p.num q.num (den_ne p) (den_ne q)
  rw [Rat.num_divInt_den, Rat.num_divInt_den] at h
  exact h
theorem sub_div (p q : Rat) : p - q = Rat.divInt (p.num * q.den - q.num * p.den) (p.den * q.den) := by
  have h := Rat.divInt_sub_divInt p.num q.num (den_ne p) (den_ne q)
  rw [Rat.num_divInt_den, Rat.num_divInt_den] at h
  exact h
theorem mul_div (p q : Rat) : p * q = Rat.divInt (p.num * q.num) (p.den * q.den) := by
  have h := Rat.divInt_mul_divInt p.num q.num (d₁ := p.den) (d₂ := q.den)
  rw [Rat.num_divInt_den, Rat.num_divInt_den] at h
  exact h
theorem div_div (p q : Rat) : p / q = Rat.divInt (p.num * q.den) (p.den * q.num) := by
  rw [Rat.div_def, Rat.inv_def]
  have h := Rat.divInt_mul_divInt p.num q.den (d₁ := p.den) (d₂ := q.num)
  rw [Rat.num_divInt_den] at h
  exact h
theorem dd_ne (p q : Rat) : (p.den * q.den : Int) ≠ 0 := Int.mul_ne_zero (den_ne p) (den_ne q)
theorem sum_eq (hp : Bd k p) (hq : Bd l q) (h : k + l < 7000) : v_sum_of [N p, N q] = .ok (N (p + q)) := by
  have hs := mul_lt (dB hp) (dB hq)
  show fnK (b_sum_of [some (.pu (N p)), some (.pu (N q))]) = _
  unfold b_sum_of
  simp only [rtO_ap, callU_ap, consA_ap, bin2_ap, varD_zero, varD_succ, cD_ap, k2_ok, ixN0, ixN1, nilA_ap,
    mulD_ok hp.1 (dB hq) (by omega), mulD_ok hq.1 (dB hp) (by omega), mulD_ok (dB hp) (dB hq) (by omega), addD_int, cnK_ok, cuK_2]
  rw [made_eq (dd_ne p q) (lt_up hs (by omega)), ← add_div]
  rfl
theorem diff_eq (hp : Bd k p) (hq : Bd l q) (h : k + l < 7000) : v_difference [N p, N q] = .ok (N (p - q)) := by
  have hs := mul_lt (dB hp) (dB hq)
  show fnK (b_difference [some (.pu (N p)), some (.pu (N q))]) = _
  unfold b_difference
  simp only [rtO_ap, callU_ap, consA_ap, bin2_ap, varD_zero, varD_succ, cD_ap, k2_ok, ixN0, ixN1, nilA_ap,
    mulD_ok hp.1 (dB hq) (by omega), mulD_ok hq.1 (dB hp) (by omega), mulD_ok (dB hp) (dB hq) (by omega), subD_int, cnK_ok, cuK_2]
  rw [made_eq (dd_ne p q) (lt_up hs (by omega)), ← sub_div]
  rfl
theorem prod_eq (hp : Bd k p) (hq : Bd l q) (h : k + l < 7000) : v_product [N p, N q] = .ok (N (p * q)) := by
  have hs := mul_lt (dB hp) (dB hq)
  show fnK (b_product [some (.pu (N p)), some (.pu (N q))]) = _
  unfold b_product
  simp only [rtO_ap, callU_ap, consA_ap, bin2_ap, varD_zero, varD_succ, cD_ap, k2_ok, ixN0, ixN1, nilA_ap,
    mulD_ok hp.1 hq.1 (by omega), mulD_ok (dB hp) (dB hq) (by omega), cnK_ok, cuK_2]
  rw [made_eq (dd_ne p q) (lt_up hs (by omega)), ← mul_div]
  rfl
theorem num_ne (h : q ≠ 0) : q.num ≠ 0 := fun e => h (Rat.num_eq_zero.mp e)
theorem quot_eq (hp : Bd k p) (hq : Bd l q) (h : k + l < 7000) (h0 : q ≠ 0) : v_quotient [N p, N q] = .ok (N (p / q)) := by
  have hs := mul_lt (dB hp) hq.1
  show fnK (b_quotient [some (.pu (N p)), some (.pu (N q))]) = _
  unfold b_quotient
  simp only [rtO_ap, callU_ap, consA_ap, bin2_ap, varD_zero, varD_succ, cD_ap, k2_ok, ixN0, ixN1, nilA_ap,
    mulD_ok hp.1 (dB hq) (by omega), mulD_ok (dB hp) hq.1 (by omega), cnK_ok, cuK_2]
  rw [made_eq (Int.mul_ne_zero (den_ne p) (num_ne h0)) (lt_up hs (by omega)), ← div_div]
  rfl
/-- bounds -/
theorem add_bd (hp : Bd k p) (hq : Bd l q) : Bd (k + l + 1) (p + q) := by
  rw [add_div]
  have h := divInt_bd (a := p.num * q.den + q.num * p.den) (dd_ne p q)
  have h1 := mul_lt hp.1 (dB hq)
  have h2 := mul_lt hq.1 (dB hp)
  rw [Nat.add_comm l k] at h2
  have h3 := add_lt h1 h2
  have h4 := lt_up (mul_lt (dB hp) (dB hq)) (Nat.le_succ (k + l))
  exact ⟨Nat.lt_of_le_of_lt h.1 h3, Nat.lt_of_le_of_lt h.2 h4⟩
theorem sub_bd (hp : Bd k p) (hq : Bd l q) : Bd (k + l + 1) (p - q) := by
  rw [sub_div]
  have h := divInt_bd (a := p.num * q.den - q.num * p.den) (dd_ne p q)
  have h1 := mul_lt hp.1 (dB hq)
  have h2 := mul_lt hq.1 (dB hp)
  rw [Nat.add_comm l k] at h2
  have h3 := sub_lt h1 h2
  have h4 := lt_up (mul_lt (dB hp) (dB hq)) (Nat.le_succ (k + l))
  exact ⟨Nat.lt_of_le_of_lt h.1 h3, Nat.lt_of_le_of_lt h.2 h4⟩
theorem mul_bd (hp : Bd k p) (hq : Bd l q) : Bd (k + l) (p * q) := by
  rw [mul_div]
  have h := divInt_bd (a := p.num * q.num) (dd_ne p q)
  exact ⟨Nat.lt_of_le_of_lt h.1 (mul_lt hp.1 hq.1), Nat.lt_of_le_of_lt h.2 (mul_lt (dB hp) (dB hq))⟩
theorem div_bd (hp : Bd k p) (hq : Bd l q) (h0 : q ≠ 0) : Bd (k + l) (p / q) := by
  rw [div_div]
  have h := divInt_bd (a := p.num * q.den) (Int.mul_ne_zero (den_ne p) (num_ne h0))
  exact ⟨Nat.lt_of_le_of_lt h.1 (mul_lt hp.1 (dB hq)), Nat.lt_of_le_of_lt h.2 (mul_lt (dB hp) hq.1)⟩
end
/-! ### checks -/
theorem allK_trues (ds : List D) : allK (ds.map fun _ => .bool true) = .ok (.bool true) := by
  unfold allK
  have h : boolsOf (ds.map fun _ => .bool true) = some (ds.map fun _ => true) := by
    induction ds with
    | nil => rfl
    | cons d ds ih => simp [boolsOf, ih]
  rw [h]
  simp
theorem check_all {ds : List D} (hl : lineOk ds.length = true) (h : ∀ d ∈ ds, v_is_number [d] = .ok (.bool true)) : v_check_numbers [.tuple ds] = .ok .none := by
  show fnK (b_check_numbers [some (.pu (.tuple ds)), none]) = _
  unfold b_check_numbers
  have e : lcF (seqF (varD 0)) (nmG 1) yesB (callU 1 v_is_number (consA (varD 1) nilA)) [1] [some (.pu (.tuple ds)), none] = .ok (ds.map fun _ => .bool true) := by
    simp only [lcF_ap, seqF_ap, varD_zero, sqK_t, lcK_ok hl]
    exact compO_map (fun _ => .bool true) ds fun d hd => ⟨_, rfl, by simp [h d hd]⟩
  simp [-lcF_ap, e, allK_trues]
theorem check_N1 (p : Rat) : v_check_numbers [.tuple [N p]] = .ok .none := check_all rfl (by simp [isnum_N])
theorem check_N2 (p q : Rat) : v_check_numbers [.tuple [N p, N q]] = .ok .none := check_all rfl (by simp [isnum_N])
section
variable {p q : Rat} {k l : Nat}
theorem plus_eq (hp : Bd k p) (hq : Bd l q) (h : k + l < 7000) : v_plus [N p, N q] = .ok (N (p + q)) := by
  show fnK (b_plus [some (.pu (N p)), some (.pu (N q))]) = _
  unfold b_plus
  simp [check_N2, sum_eq hp hq h]
theorem minus_eq (hp : Bd k p) (hq : Bd l q) (h : k + l < 7000) : v_minus [N p, N q] = .ok (N (p - q)) := by
  show fnK (b_minus [some (.pu (N p)), some (.pu (N q))]) = _
  unfold b_minus
  simp [check_N2, diff_eq hp hq h]
theorem times_eq (hp : Bd k p) (hq : Bd l q) (h : k + l < 7000) : v_times [N p, N q] = .ok (N (p * q)) := by
  show fnK (b_times [some (.pu (N p)), some (.pu (N q))]) = _
  unfold b_times
  simp [check_N2, prod_eq hp hq h]
theorem over_eq (hp : Bd k p) (hq : Bd l q) (h : k + l < 7000) (h0 : q ≠ 0) : v_over [N p, N q] = .ok (N (p / q)) := by
  show fnK (b_over [some (.pu (N p)), some (.pu (N q))]) = _
  unfold b_over
  simp [check_N2, quot_eq hp hq h h0, eqD_int, num_ne h0]
theorem turned_eq (p : Rat) : v_turned [N p] = .ok (N (-p)) := by
  show fnK (b_turned [some (.pu (N p))]) = _
  unfold b_turned
  simp [check_N1]
  rfl
def ordI (p q : Rat) : Int := p.num * q.den - q.num * p.den
def sgI (a : Int) : Int := if a = 0 then 0 else if 0 < a then 1 else -1
theorem order_eq (hp : Bd k p) (hq : Bd l q) (h : k + l < 7000) : v_order [N p, N q] = .ok (.int (sgI (ordI p q))) := by
  show fnK (b_order [some (.pu (N p)), some (.pu (N q)), none]) = _
  unfold b_order ordI sgI
  simp only [sqO_ap, stO_ap, bin2_ap, varD_zero, varD_succ, cD_ap, k2_ok, ixN0, ixN1,
    mulD_ok hp.1 (dB hq) (by omega), mulD_ok hq.1 (dB hp) (by omega), subD_int, stK_ok, List.set, Out.nx_seq, rtO_ap, ifD_ap, asF_ap, eqD_int, asB_ok]
  generalize p.num * q.den - q.num * p.den = a
  by_cases h0 : a = 0
  · simp [h0]
  · by_cases h1 : 0 < a
    · simp [h0, h1]
    · simp [h0, h1]
theorem compare_eq (hp : Bd k p) (hq : Bd l q) (h : k + l < 7000) : v_compare [N p, N q] = .ok (.int (sgI (ordI p q))) := by
  show fnK (b_compare [some (.pu (N p)), some (.pu (N q))]) = _
  unfold b_compare
  simp [check_N2, order_eq hp hq h]
theorem ratio_eq {a b : Int} (hb : b ≠ 0) (hs : b.natAbs < 2 ^ 8000) : v_ratio [.int a, .int b] = .ok (N (Rat.divInt a b)) := by
  show fnK (b_ratio [some (.pu (.int a)), some (.pu (.int b))]) = _
  unfold b_ratio
  simp [isint_int, eqD_int, hb, made_eq hb hs]
theorem ord_zero (p q : Rat) : ordI p q = 0 ↔ p = q := by
  unfold ordI
  constructor
  · intro h
    have := (Rat.divInt_eq_divInt_iff (den_ne p) (den_ne q)).mpr (show p.num * q.den = q.num * p.den by omega)
    rw [Rat.num_divInt_den, Rat.num_divInt_den] at this
    exact this
  · intro h; subst h; omega
theorem ord_neg (p q : Rat) : ordI p q < 0 ↔ p < q := by
  unfold ordI
  rw [Rat.lt_iff]; omega
theorem ord_pos (p q : Rat) : 0 < ordI p q ↔ q < p := by
  unfold ordI
  rw [Rat.lt_iff]; omega
theorem sg_neg (a : Int) : sgI a < 0 ↔ a < 0 := by unfold sgI; split <;> (try split) <;> omega
theorem sg_pos (a : Int) : 0 < sgI a ↔ 0 < a := by unfold sgI; split <;> (try split) <;> omega
theorem law_is {d : D} {a b : Int} {q : Rat} (hd : d = N q) (h : q.num * b = a * q.den) (hq : Bd k q) (hb : b.natAbs < 2 ^ l) (ha : a.natAbs < 2 ^ l) (hl : k + l < 9000) : v__law_is [d, .int a, .int b] = .ok (.bool true) := by
  subst hd
  have hpos : (0 : Int) < q.den := by have := q.den_pos; omega
  show fnK (b__law_is [some (.pu (N q)), some (.pu (.int a)), some (.pu (.int b))]) = _
  unfold b__law_is
  simp only [rtO_ap, andV_ap, callU_ap, consA_ap, bin2_ap, varD_zero, varD_succ, cD_ap, k2_ok, ixN0, ixN1, nilA_ap, cnK_ok, cuK_1, isnum_N, asB_ok, andVK_t,
    mulD_ok hq.1 hb (by omega), mulD_ok ha (dB hq) (by omega), eqD_int, h, gtD_int, decide_true, decide_eq_true hpos, rtK_ok, fnK_rt]
end
end Mt

namespace Mt
open PySem PySem.Spec PyProof.Rows L2 TD Dn TL
/-! ### texts -/
theorem okS {x : Str} (h : ∀ c ∈ tl x, c < 1114112) : okD (.str x) = true := by
  have e : PyData.strOk x = true := by
    unfold PyData.strOk
    rw [← Array.all_toList, List.all_eq_true]
    intro c hc
    exact decide_eq_true (h c hc)
  show (PyData.canLay0 (.str x) && decide (PyData.depth (.str x) ≤ 64)) = true
  rw [show PyData.canLay0 (.str x) = PyData.strOk x by rw [PyData.canLay0], e]
  simp [PyData.depth]
theorem eqv_str (x y : Str) : PyData.eqv (.str x) (.str y) = decide (x = y) := by
  rw [PyData.eqv]; rfl
theorem eqD_str {x y : Str} (hx : okD (.str x) = true) (hy : okD (.str y) = true) : eqD (.str x) (.str y) = .ok (.bool (decide (x = y))) := by
  unfold eqD; rw [hx, hy, eqv_str]; rfl
theorem neD_str {x y : Str} (hx : okD (.str x) = true) (hy : okD (.str y) = true) : neD (.str x) (.str y) = .ok (.bool (!decide (x = y))) := by
  unfold neD; rw [hx, hy, eqv_str]; rfl
def numT (a : Int) : Str := toString a
def numI (a : Int) : List Nat := if a < 0 then 45 :: numL a.natAbs else numL a.natAbs
theorem tl_numT (a : Int) : tl (numT a) = numI a := by
  unfold numI
  split
  · rename_i h
    have : tl (numT a) = (toString a).toList.map Char.toNat := tl_ofString _
    rw [this, Int.toString_eq_repr, Int.repr_eq_if, if_neg (by omega), String.toList_append, Nat.toList_repr, List.map_append]
    have e : (-a).toNat = a.natAbs := by omega
    rw [e]
    rfl
  · rename_i h
    obtain ⟨n, rfl⟩ := Int.eq_ofNat_of_zero_le (show 0 ≤ a by omega)
    exact tl_num n
theorem numI_sign {a : Int} : ∀ c ∈ numI a, c = 45 ∨ (48 ≤ c ∧ c ≤ 57) := by
  intro c hc
  unfold numI at hc
  split at hc
  · rcases List.mem_cons.mp hc with h | h
    · exact .inl h
    · exact .inr (numL_digits _ c h)
  · exact .inr (numL_digits _ c hc)
theorem ok_numT (a : Int) : okD (.str (numT a)) = true := okS fun c hc => by
  rw [tl_numT] at hc
  have := numI_sign c hc
  omega
theorem numL_head {n : Nat} (h : 0 < n) : ∃ c r, numL n = c :: r ∧ 49 ≤ c ∧ c ≤ 57 := by
  induction n using Nat.strongRecOn with
  | _ n ih =>
    by_cases h1 : n < 10
    · exact ⟨48 + n, [], numL_lt h1, by omega, by omega⟩
    · obtain ⟨c, r, e, h2, h3⟩ := ih (n / 10) (by omega) (by omega)
      exact ⟨c, r ++ [48 + n % 10], by rw [numL_step (by omega), e]; rfl, h2, h3⟩
theorem numL_pos (n : Nat) : 1 ≤ (numL n).length := List.length_pos_iff.mpr (numL_ne n)
theorem tl_dash : tl ("-" : Str) = [45] := by decide +kernel
theorem tl_zero : tl ("0" : Str) = [48] := by decide +kernel
theorem tl_slash : tl ("/" : Str) = [47] := by decide +kernel
theorem tl_figs : tl ("0123456789" : Str) = [48, 49, 50, 51, 52, 53, 54, 55, 56, 57] := by decide +kernel
theorem ok_dash : okD (.str "-") = true := okS (by rw [tl_dash]; decide)
theorem ok_zero : okD (.str "0") = true := okS (by rw [tl_zero]; decide)
theorem ok_one (c : Nat) (h : c < 1114112) : okD (.str ⟨#[c]⟩) = true := okS fun d hd => by
  have : d = c := by simpa [tl] using hd
  omega
theorem tl_cut1 (x : Str) : tl (cutS x none (some 1)) = (tl x).take 1 := by
  show ((x.cps.toList.drop (HT.sIx x.length 0 none)).take (HT.sIx x.length x.length (some 1) - HT.sIx x.length 0 none)) = _
  rw [HT.sIx_none, show HT.sIx x.length x.length (some 1) = min 1 x.length from HT.sIx_nat _ _ 1, len_tl]
  rw [List.drop_zero, Nat.sub_zero]
  show (tl x).take (min 1 (tl x).length) = _
  rcases tl x with _ | ⟨c, r⟩
  · rfl
  · rw [List.length_cons, Nat.min_eq_left (by omega)]
theorem tl_cutR (x : Str) : tl (cutS x (some 1) none) = (tl x).drop 1 := by
  show ((x.cps.toList.drop (HT.sIx x.length 0 (some 1))).take (HT.sIx x.length x.length none - HT.sIx x.length 0 (some 1))) = _
  rw [HT.sIx_none, show HT.sIx x.length 0 (some 1) = min 1 x.length from HT.sIx_nat _ _ 1, len_tl]
  show ((tl x).drop (min 1 (tl x).length)).take ((tl x).length - min 1 (tl x).length) = _
  rcases tl x with _ | ⟨c, r⟩
  · rfl
  · rw [List.length_cons, Nat.min_eq_left (by omega)]
    exact List.take_of_length_le (by simp)
theorem lineS {x : Str} {k : Nat} (h : (tl x).length ≤ k) (hk : k ≤ 1000) : lineOk x.length = true := by
  unfold lineOk
  rw [len_tl]
  exact decide_eq_true (by omega)
theorem intText_num {a : Int} (h : (numI a).length ≤ 300) : PySem.intText? (numT a) = some a := by
  unfold numI at h
  split at h
  · rename_i hn
    have e := PySem.intText_neg (x := numT a) (cs := numL a.natAbs) (by
      show tl (numT a) = _
      rw [tl_numT, numI, if_pos hn]) (numL_digits _) (numL_ne _) (by rw [len_tl, tl_numT, numI, if_pos hn]; omega)
    rw [e, numL_val]
    congr 1
    omega
  · rename_i hn
    obtain ⟨n, rfl⟩ := Int.eq_ofNat_of_zero_le (show 0 ≤ a by omega)
    exact int_num (by rw [show (n : Int).natAbs = n from Int.natAbs_natCast n] at h; omega)
theorem allK_bools (bs : List Bool) : allK (bs.map .bool) = .ok (.bool (bs.all id)) := by
  unfold allK
  have h : boolsOf (bs.map .bool) = some bs := by
    induction bs with
    | nil => rfl
    | cons d ds ih => simp [boolsOf, ih]
  rw [h]
theorem allK_tr {α : Type} (l : List α) : allK (l.map fun _ => .bool true) = .ok (.bool true) := by
  have h := allK_bools (l.map fun _ => true)
  rw [List.map_map] at h
  refine h.trans ?_
  congr 2
  rw [List.all_eq_true]
  intro b hb
  obtain ⟨c, _, rfl⟩ := List.mem_map.mp hb
  rfl
theorem inG_fig {c : Nat} (h : 48 ≤ c ∧ c ≤ 57) : inG (.str ⟨#[c]⟩) (.str "0123456789") = .ok (.bool true) := by
  have e : c ∈ ("0123456789" : Str).cps.toList := by
    show c ∈ tl ("0123456789" : Str)
    rw [tl_figs]
    simp only [List.mem_cons, List.not_mem_nil, or_false]
    omega
  show R.ok (PyData.bool (decide (c ∈ ("0123456789" : Str).cps.toList))) = _
  rw [decide_eq_true e]
theorem figs {x : Str} (h : ∀ c ∈ tl x, 48 ≤ c ∧ c ≤ 57) (hl : (tl x).length ≤ 300) {a : D} {z : Option Sl} :
    lcF (seqF (varD 1)) (nmG 2) yesB (bin2 inG (varD 2) (cD (.str "0123456789"))) [2] [some (.pu a), some (.pu (.str x)), z] = .ok ((tl x).map fun _ => .bool true) := by
  simp only [lcF_ap, seqF_ap, varD_zero, varD_succ, sqK_s, lineS hl (by omega), if_true]
  rw [lcK_ok (by rw [List.length_map]; unfold lineOk; exact decide_eq_true (by simp only [tl] at hl; omega))]
  rw [compO_map (fun _ => .bool true)]
  · rw [List.map_map]; rfl
  · intro d hd
    obtain ⟨c, hc, rfl⟩ := List.mem_map.mp hd
    exact ⟨_, rfl, by simp [inG_fig (h c hc)]⟩
theorem integer_of_num {a : Int} (h : (numI a).length ≤ 300) : v_integer_of [.str (numT a)] = .ok (.int a) := by
  have hl : (tl (numT a)).length ≤ 300 := by rw [tl_numT]; exact h
  have hline := lineS hl (by omega)
  -- the bare digits
  have hbare : ∃ y : Str, tl y = numL a.natAbs ∧ ifD (asF (bin2 eqD (slcG (varD 0) noP (someP (cD (.int 1)))) (cD (.str "-")))) (slcG (varD 0) (someP (cD (.int 1))) noP) (varD 0) [some (.pu (.str (numT a))), none, none] = .ok (.str y) := by
    have okc : okD (.str (cutS (numT a) none (some 1))) = true := okS fun c hc => by
      rw [tl_cut1, tl_numT] at hc
      have := numI_sign c (List.mem_of_mem_take hc)
      omega
    by_cases hn : a < 0
    · refine ⟨cutS (numT a) (some 1) none, by rw [tl_cutR, tl_numT, numI, if_pos hn]; rfl, ?_⟩
      have e : cutS (numT a) none (some 1) = "-" := ext_tl (by rw [tl_cut1, tl_numT, numI, if_pos hn, tl_dash]; rfl)
      rw [e] at okc
      simp [slK_s, hline, e, eqD_str okc ok_dash]
    · refine ⟨numT a, by rw [tl_numT, numI, if_neg hn], ?_⟩
      have e : cutS (numT a) none (some 1) ≠ "-" := fun e => by
        have e2 := congrArg tl e
        rw [tl_cut1, tl_numT, numI, if_neg hn, tl_dash] at e2
        have : 45 ∈ numL a.natAbs := List.mem_of_mem_take (by rw [e2]; exact List.mem_cons_self)
        exact numL_free (by omega) this
      simp [slK_s, hline, e, eqD_str okc ok_dash]
  obtain ⟨y, hy, eb⟩ := hbare
  have hyl : (tl y).length ≤ 300 := by
    rw [hy]
    unfold numI at h
    split at h
    · rw [List.length_cons] at h; omega
    · exact h
  have hyd : ∀ c ∈ tl y, 48 ≤ c ∧ c ≤ 57 := by rw [hy]; exact numL_digits _
  have hy1 : 1 ≤ (tl y).length := by rw [hy]; exact numL_pos _
  have hyline := lineS hyl (by omega)
  have hlen : lenK [.str y] = .ok (.int (tl y).length) := by
    first | (rw [← len_tl]; rfl) | (rw [← len_tl]; simp [lenK, hyline])
  have hfig := figs hyd hyl (a := .str (numT a)) (z := none)
  show fnK (b_integer_of [some (.pu (.str (numT a))), none, none]) = _
  unfold b_integer_of
  have hend : (orB (asF (bin2 eqD (varD 0) (cD (.str "0")))) (asF (bin2 neD (bin2 ixD (varD 1) (cD (.int 0))) (cD (.str "0"))))) [some (.pu (.str (numT a))), some (.pu (.str y)), none] = .ok true := by
    by_cases h0 : numT a = "0"
    · show orK (asB (eqD (.str (numT a)) (.str "0"))) _ _ = _
      rw [eqD_str (ok_numT a) ok_zero, decide_eq_true h0]
      rfl
    · have hpos : 0 < a.natAbs := by
        rcases Nat.eq_zero_or_pos a.natAbs with e | e
        · exfalso
          apply h0
          apply ext_tl
          have : a = 0 := by omega
          subst this
          rw [tl_numT, tl_zero]; rfl
        · exact e
      obtain ⟨c, r, e, h1, h2⟩ := numL_head hpos
      have hix : ixD (.str y) (.int 0) = .ok (.str ⟨#[c]⟩) := by
        show (if lineOk y.length then (optR (atD (tl y) 0)).bind fun c => R.ok (PyData.str ⟨#[c]⟩) else .no) = _
        rw [hyline, hy, e]; rfl
      have hne : (⟨#[c]⟩ : Str) ≠ "0" := fun e2 => by
        have e3 := congrArg tl e2
        rw [tl_zero] at e3
        have : c = 48 := by simpa [tl] using e3
        omega
      simp [eqD_str (ok_numT a) ok_zero, h0, hix, neD_str (ok_one c (by omega)) ok_zero, hne]
  have hint : intG [.str (numT a)] = .ok (.int a) := by
    show (match PySem.intText? (numT a) with
    | some n => if decide ((numT a).length ≤ 640) then R.ok (PyData.int n) else .no
    | none => .no) = _
    rw [intText_num h]
    have : (numT a).length ≤ 640 := by rw [len_tl]; omega
    simp [this]
  rw [sqO_ap, stO_ap, eb, stK_ok, Out.nx_seq]
  have hall := allK_tr (tl y)
  have hle1 : (1 : Int) ≤ (tl y).length := by omega
  have hle2 : ((tl y).length : Int) ≤ 300 := by omega
  have hlen' : lenK [.str y] = .ok (.int ((tl y).length : Nat)) := hlen
  simp only [List.set, sqO_ap, ifO_ap, orB_ap, notB_ap, asF_ap, chD_ap, cD_ap, callF_ap, consA_ap, varD_zero, varD_succ, nilA_ap, cnK_ok, R.ok_bind, hlen', k2_ok, leD_int, decide_eq_true hle1, decide_eq_true hle2, chK_t, asB_ok, notK_ok, Bool.not_true, orK_f, hfig, hall, ifK_f, nxO_ap, Out.nx_seq, rtO_ap, ifD_ap]
  rw [orB_ap, asF_ap] at hend
  rw [hend]
  simp [hint]
end Mt

namespace Mt
open PySem PySem.Spec PyProof.Rows L2 TD Dn TL
theorem numI_len {a : Int} (h : a.natAbs < 2 ^ 80) : (numI a).length ≤ 31 := by
  have h2 : a.natAbs < 10 ^ 30 := Nat.lt_of_lt_of_le h (by decide)
  have := numL_len (k := 30) (by decide) h2
  unfold numI
  split
  · rw [List.length_cons]; omega
  · omega
theorem strK_num {a : Int} (h : a.natAbs < 2 ^ 80) : strK [.int a] = .ok (.str (numT a)) := by
  have := log2_le h
  show (if decide (a.natAbs.log2 < 1920) then R.ok (PyData.str (toString a)) else .no) = _
  rw [decide_eq_true (by omega)]
  rfl
def textQ (q : Rat) : Str := if q.den = 1 then numT q.num else numT q.num ++ "/" ++ numT q.den
section
variable {q : Rat} (hq : Bd 80 q)
include hq
theorem lineNum {a : Int} (h : a.natAbs < 2 ^ 80) : (numT a).length ≤ 31 := by
  have := numI_len h
  rw [len_tl, tl_numT]; exact this
theorem len_app (x y : Str) : (x ++ y).length = x.length + y.length := by
  rw [len_tl, len_tl, len_tl, tl_append, List.length_append]
theorem len_slash : ("/" : Str).length = 1 := by rw [len_tl, tl_slash]; rfl
theorem addS {x y : Str} (h : x.length + y.length ≤ 1000) : addD (.str x) (.str y) = .ok (.str (x ++ y)) := by
  rw [addD_str]
  unfold lineOk
  rw [decide_eq_true (by omega)]
  rfl
theorem text_by_eq : v_text_by [N q] = .ok (.str (textQ q)) := by
  have hb : ((q.den : Int)).natAbs < 2 ^ 80 := dB hq
  have l1 := lineNum hq hq.1
  have l2 := lineNum hq hb
  have e1 : addD (.str (numT q.num)) (.str "/") = .ok (.str (numT q.num ++ "/")) := addS hq (by rw [len_slash hq]; omega)
  have e2 : addD (.str (numT q.num ++ "/")) (.str (numT q.den)) = .ok (.str (numT q.num ++ "/" ++ numT q.den)) := addS hq (by rw [len_app hq, len_slash hq]; omega)
  show fnK (b_text_by [some (.pu (N q))]) = _
  unfold b_text_by textQ
  by_cases h : q.den = 1
  · have h' : (q.den : Int) = 1 := by omega
    simp only [rtO_ap, ifD_ap, asF_ap, bin2_ap, varD_zero, cD_ap, k2_ok, ixN0, ixN1, eqD_int, decide_eq_true h', asB_ok, ifDK_t, callF_ap, consA_ap, nilA_ap, cnK_ok, R.ok_bind, strK_num hq.1, rtK_ok, fnK_rt, if_pos h]
  · have h' : ¬ (q.den : Int) = 1 := by omega
    simp only [rtO_ap, ifD_ap, asF_ap, bin2_ap, varD_zero, cD_ap, k2_ok, ixN0, ixN1, eqD_int, decide_eq_false h', asB_ok, ifDK_f, callF_ap, consA_ap, nilA_ap, cnK_ok, R.ok_bind, strK_num hq.1, strK_num hb, e1, e2, rtK_ok, fnK_rt, if_neg h]
theorem number_text_eq : v_number_text [N q] = .ok (.str (textQ q)) := by
  show fnK (b_number_text [some (.pu (N q))]) = _
  unfold b_number_text
  simp [check_N1, text_by_eq hq]
theorem ok_textQ : okD (.str (textQ q)) = true := okS fun c hc => by
  have hs : ∀ (a : Int), c ∈ tl (numT a) → c < 1114112 := fun a h => by
    rw [tl_numT] at h
    have := numI_sign c h
    omega
  unfold textQ at hc
  split at hc
  · exact hs _ hc
  · rw [tl_append, tl_append, tl_slash, List.mem_append, List.mem_append] at hc
    rcases hc with (hc | hc) | hc
    · exact hs _ hc
    · rw [List.mem_singleton.mp hc]; decide
    · exact hs _ hc
omit hq in
theorem no_slash (a : Int) : 47 ∉ tl (numT a) := fun h => by
  rw [tl_numT] at h
  have := numI_sign 47 h
  omega
omit hq in
theorem slash_all : ("/" : Str).cps.all (· < 256) = true := by decide +kernel
omit hq in
theorem split1 (a : Int) : Txt.split (numT a) "/" = [numT a] := by
  have h := split_join (y := "/") (s := 47) (S := []) tl_slash slash_all (parts := [numT a]) (by simp) (by intro p hp; rw [List.mem_singleton.mp hp]; exact no_slash a)
  rw [join_eq] at h
  exact h
omit hq in
theorem split2 (a b : Int) : Txt.split (numT a ++ "/" ++ numT b) "/" = [numT a, numT b] := by
  have h := split_join (y := "/") (s := 47) (S := []) tl_slash slash_all (parts := [numT a, numT b]) (by simp) (by
    intro p hp
    rcases List.mem_cons.mp hp with e | hp
    · rw [e]; exact no_slash a
    · rw [List.mem_singleton.mp hp]; exact no_slash b)
  rw [join_eq] at h
  exact h
omit hq in
theorem compO_cons {h : D → EnvS → R EnvS} {f : EnvS → R D} {ρ ρ1 : EnvS} {d v : D} {ds vs : List D} (e1 : h d ρ = .ok ρ1) (e2 : f ρ1 = .ok v) (e3 : compO h yesB f ds ρ = .ok vs) : compO h yesB f (d :: ds) ρ = .ok (v :: vs) := by
  unfold compO
  rw [e1]
  dsimp only [yesB]
  rw [e2, e3]
theorem read_eq : v_read_number [.str (textQ q)] = .ok (N q) := by
  have hb : ((q.den : Int)).natAbs < 2 ^ 80 := dB hq
  have l1 := lineNum hq hq.1
  have l2 := lineNum hq hb
  have i1 := integer_of_num (a := q.num) (by have := numI_len hq.1; omega)
  have i2 := integer_of_num (a := q.den) (by have := numI_len hb; omega)
  have hsl : decide (("/" : Str).length ≠ 0) = true := by rw [len_slash hq]; rfl
  show fnK (b_read_number [some (.pu (.str (textQ q))), none, none, none, none]) = _
  unfold b_read_number
  by_cases h : q.den = 1
  · have et : textQ q = numT q.num := if_pos h
    rw [et]
    have hln : lineOk ((numT q.num).length + 2) = true := by unfold lineOk; exact decide_eq_true (by omega)
    have es : splF (varD 0) (cD (.str "/")) [some (.pu (.str (numT q.num))), none, none, none, none] = .ok [.str (numT q.num)] := by
      show (if decide (("/" : Str).length ≠ 0) && lineOk ((numT q.num).length + 2) then R.ok ((Txt.split (numT q.num) "/").map PyData.str) else .no) = _
      rw [hsl, hln, split1]; rfl
    have el : lcF (seqF (varD 1)) (nmG 4) yesB (callU 1 v_integer_of (consA (varD 4) nilA)) [4] [some (.pu (.str (numT q.num))), some (.pu (.list [.str (numT q.num)])), none, none, none] = .ok [.int q.num] := by
      rw [lcF_ap, show seqF (varD 1) [some (.pu (.str (numT q.num))), some (.pu (.list [.str (numT q.num)])), none, none, none] = .ok [.str (numT q.num)] from rfl, lcK_ok rfl]
      exact compO_cons rfl (by simp [i1]) rfl
    simp only [sqO_ap, stO_ap, lstF_ap, es, lsK_ok, stK_ok, List.set, Out.nx_seq, el]
    have hq1 : N q = .tuple [.int q.num, .int 1] := by unfold N; rw [h]; rfl
    rw [hq1]
    simp [inG, okD, SeqAt.shaped]
    rfl
  · have et : textQ q = numT q.num ++ "/" ++ numT q.den := if_neg h
    rw [et]
    have hll : (numT q.num ++ "/" ++ numT q.den).length ≤ 63 := by rw [len_app hq, len_app hq, len_slash hq]; omega
    generalize hz : (numT q.num ++ "/" ++ numT q.den : Str) = z at hll
    have hln : lineOk (z.length + 2) = true := by unfold lineOk; exact decide_eq_true (by omega)
    have es : splF (varD 0) (cD (.str "/")) [some (.pu (.str z)), none, none, none, none] = .ok [.str (numT q.num), .str (numT q.den)] := by
      show (if decide (("/" : Str).length ≠ 0) && lineOk (z.length + 2) then R.ok ((Txt.split z "/").map PyData.str) else .no) = _
      rw [hsl, hln, ← hz, split2]; rfl
    have el : lcF (seqF (varD 1)) (nmG 4) yesB (callU 1 v_integer_of (consA (varD 4) nilA)) [4] [some (.pu (.str z)), some (.pu (.list [.str (numT q.num), .str (numT q.den)])), none, none, none] = .ok [.int q.num, .int q.den] := by
      rw [lcF_ap, show seqF (varD 1) [some (.pu (.str z)), some (.pu (.list [.str (numT q.num), .str (numT q.den)])), none, none, none] = .ok [.str (numT q.num), .str (numT q.den)] from rfl, lcK_ok rfl]
      exact compO_cons rfl (by simp [i1]) (compO_cons rfl (by simp [i2]) rfl)
    simp only [sqO_ap, stO_ap, lstF_ap, es, lsK_ok, stK_ok, List.set, Out.nx_seq, el]
    have hgt : decide ((1 : Int) < q.den) = true := decide_eq_true (by have := q.den_pos; omega)
    have hN := isnum_N q
    unfold N at hN ⊢
    have hin : inG .none (.list [.int q.num, .int q.den]) = .ok (.bool false) := rfl
    simp [hin, eqD_int, hN, -decide_eq_true_eq, hgt]
theorem number_of_eq : v_number_of [.str (textQ q)] = .ok (N q) := by
  show fnK (b_number_of [some (.pu (.str (textQ q))), none]) = _
  unfold b_number_of
  have hn : isND (N q) .none = .ok (.bool false) := rfl
  simp [isiK, tyName, kit_ss, read_eq hq, hn]
end
end Mt

namespace Mt
open PySem PySem.Spec PyProof.Rows L2 TD Dn TL
theorem forO_cons {h : D → EnvS → R EnvS} {gb : EnvS → Out} {d : D} {ds : List D} {ρ ρ1 ρ2 : EnvS} (e1 : h d ρ = .ok ρ1) (e2 : gb ρ1 = .nx ρ2) : forO h gb (d :: ds) ρ = forO h gb ds ρ2 := by
  rw [forO, e1]
  dsimp only
  rw [e2]
theorem min_loop {k : Nat} (hk : k + k < 7000) {T : Option Sl} : ∀ (qs : List Rat) (m : Rat) (z : Option Sl), Bd k m → (∀ r ∈ qs, Bd k r) →
    ∃ m' z', forO (nmG 2) (ifO (asF (bin2 ltD (callU 2 v_order (consA (varD 2) (consA (varD 1) nilA))) (cD (.int 0)))) (stO 1 (varD 2)) nxO) (qs.map N) [T, some (.pu (N m)), z] = .nx [T, some (.pu (N m')), z'] ∧ (m' = m ∨ m' ∈ qs) ∧ m' ≤ m ∧ ∀ r ∈ qs, m' ≤ r := by
  intro qs
  induction qs with
  | nil => exact fun m z _ _ => ⟨m, z, rfl, .inl rfl, Rat.le_refl, fun r h => absurd h List.not_mem_nil⟩
  | cons q qs ih =>
    intro m z hm hqs
    have hq := hqs q List.mem_cons_self
    by_cases hlt : q < m
    · obtain ⟨m', z', e, h1, h2, h3⟩ := ih q (some (.pu (N q))) hq (fun r hr => hqs r (List.mem_cons_of_mem _ hr))
      refine ⟨m', z', ?_, ?_, Rat.le_trans h2 (Rat.le_of_lt hlt), ?_⟩
      · rw [List.map_cons, forO_cons (ρ1 := [T, some (.pu (N m)), some (.pu (N q))]) (ρ2 := [T, some (.pu (N q)), some (.pu (N q))]) rfl]
        · exact e
        · have : decide (sgI (ordI q m) < 0) = true := decide_eq_true ((sg_neg _).mpr ((ord_neg q m).mpr hlt))
          simp [order_eq hq hm hk, -decide_eq_true_eq, this]
      · rcases h1 with h1 | h1
        · exact .inr (by rw [h1]; exact List.mem_cons_self)
        · exact .inr (List.mem_cons_of_mem _ h1)
      · intro r hr
        rcases List.mem_cons.mp hr with e | hr
        · rw [e]; exact h2
        · exact h3 r hr
    · obtain ⟨m', z', e, h1, h2, h3⟩ := ih m (some (.pu (N q))) hm (fun r hr => hqs r (List.mem_cons_of_mem _ hr))
      refine ⟨m', z', ?_, ?_, h2, ?_⟩
      · rw [List.map_cons, forO_cons (ρ1 := [T, some (.pu (N m)), some (.pu (N q))]) (ρ2 := [T, some (.pu (N m)), some (.pu (N q))]) rfl]
        · exact e
        · have : decide (sgI (ordI q m) < 0) = false := decide_eq_false fun h => hlt ((ord_neg q m).mp ((sg_neg _).mp h))
          simp [order_eq hq hm hk, -decide_eq_false_iff_not, this]
      · rcases h1 with h1 | h1
        · exact .inl h1
        · exact .inr (List.mem_cons_of_mem _ h1)
      · intro r hr
        rcases List.mem_cons.mp hr with e | hr
        · rw [e]; exact Rat.le_trans h2 (Rat.not_lt.mp hlt)
        · exact h3 r hr
theorem max_loop {k : Nat} (hk : k + k < 7000) {T : Option Sl} : ∀ (qs : List Rat) (m : Rat) (z : Option Sl), Bd k m → (∀ r ∈ qs, Bd k r) →
    ∃ m' z', forO (nmG 2) (ifO (asF (bin2 gtD (callU 2 v_order (consA (varD 2) (consA (varD 1) nilA))) (cD (.int 0)))) (stO 1 (varD 2)) nxO) (qs.map N) [T, some (.pu (N m)), z] = .nx [T, some (.pu (N m')), z'] ∧ (m' = m ∨ m' ∈ qs) ∧ m ≤ m' ∧ ∀ r ∈ qs, r ≤ m' := by
  intro qs
  induction qs with
  | nil => exact fun m z _ _ => ⟨m, z, rfl, .inl rfl, Rat.le_refl, fun r h => absurd h List.not_mem_nil⟩
  | cons q qs ih =>
    intro m z hm hqs
    have hq := hqs q List.mem_cons_self
    by_cases hlt : m < q
    · obtain ⟨m', z', e, h1, h2, h3⟩ := ih q (some (.pu (N q))) hq (fun r hr => hqs r (List.mem_cons_of_mem _ hr))
      refine ⟨m', z', ?_, ?_, Rat.le_trans (Rat.le_of_lt hlt) h2, ?_⟩
      · rw [List.map_cons, forO_cons (ρ1 := [T, some (.pu (N m)), some (.pu (N q))]) (ρ2 := [T, some (.pu (N q)), some (.pu (N q))]) rfl]
        · exact e
        · have : decide (0 < sgI (ordI q m)) = true := decide_eq_true ((sg_pos _).mpr ((ord_pos q m).mpr hlt))
          simp [order_eq hq hm hk, -decide_eq_true_eq, this]
      · rcases h1 with h1 | h1
        · exact .inr (by rw [h1]; exact List.mem_cons_self)
        · exact .inr (List.mem_cons_of_mem _ h1)
      · intro r hr
        rcases List.mem_cons.mp hr with e | hr
        · rw [e]; exact h2
        · exact h3 r hr
    · obtain ⟨m', z', e, h1, h2, h3⟩ := ih m (some (.pu (N q))) hm (fun r hr => hqs r (List.mem_cons_of_mem _ hr))
      refine ⟨m', z', ?_, ?_, h2, ?_⟩
      · rw [List.map_cons, forO_cons (ρ1 := [T, some (.pu (N m)), some (.pu (N q))]) (ρ2 := [T, some (.pu (N m)), some (.pu (N q))]) rfl]
        · exact e
        · have : decide (0 < sgI (ordI q m)) = false := decide_eq_false fun h => hlt ((ord_pos q m).mp ((sg_pos _).mp h))
          simp [order_eq hq hm hk, -decide_eq_false_iff_not, this]
      · rcases h1 with h1 | h1
        · exact .inl h1
        · exact .inr (List.mem_cons_of_mem _ h1)
      · intro r hr
        rcases List.mem_cons.mp hr with e | hr
        · rw [e]; exact Rat.le_trans (Rat.not_lt.mp hlt) h2
        · exact h3 r hr
theorem cut_tail {α : Type} (x : α) (xs : List α) : TD.cutD (x :: xs) (some 1) none = xs := by
  unfold TD.cutD
  rw [HT.sIx_none, show HT.sIx (x :: xs).length 0 (some 1) = min 1 (x :: xs).length from HT.sIx_nat _ _ 1, List.length_cons, Nat.min_eq_left (by omega)]
  exact List.take_of_length_le (by simp)
theorem check_some_eq {qs : List Rat} (h0 : qs ≠ []) (hl : qs.length ≤ 1000) : v__check_some [.tuple (qs.map N)] = .ok .none := by
  show fnK (b__check_some [some (.pu (.tuple (qs.map N)))]) = _
  unfold b__check_some
  have hc : v_check_numbers [.tuple (qs.map N)] = .ok .none := check_all (by rw [List.length_map]; unfold lineOk; exact decide_eq_true (by omega)) (by
    intro d hd
    obtain ⟨q, _, rfl⟩ := List.mem_map.mp hd
    exact isnum_N q)
  have hne : ¬ ((qs.map N).length : Int) = 0 := by
    rw [List.length_map]
    have := List.length_pos_iff.mpr h0
    omega
  have hd : decide (((qs.map N).length : Int) = 0) = false := decide_eq_false hne
  simp [isiK, tyName, kit_tt, eqD_int, -List.length_map, -decide_eq_false_iff_not, hd, hc, h0]
theorem least_eq {k : Nat} (hk : k + k < 7000) (q : Rat) (qs : List Rat) (hq : ∀ r ∈ q :: qs, Bd k r) (hl : (q :: qs).length ≤ 1000) : ∃ m, m ∈ q :: qs ∧ (∀ r ∈ q :: qs, m ≤ r) ∧ v_least_one [.tuple ((q :: qs).map N)] = .ok (N m) := by
  obtain ⟨m, z, e, h1, h2, h3⟩ := min_loop hk (T := some (.pu (.tuple ((q :: qs).map N)))) qs q none (hq q List.mem_cons_self) fun r hr => hq r (List.mem_cons_of_mem _ hr)
  have e2 : v_least_of [.tuple ((q :: qs).map N)] = .ok (N m) := by
    show fnK (b_least_of [some (.pu (.tuple ((q :: qs).map N))), none, none]) = _
    unfold b_least_of
    rw [List.map_cons] at e ⊢
    simp [cut_tail, e]
  refine ⟨m, ?_, ?_, ?_⟩
  · rcases h1 with h1 | h1
    · rw [h1]; exact List.mem_cons_self
    · exact List.mem_cons_of_mem _ h1
  · intro r hr
    rcases List.mem_cons.mp hr with e | hr
    · rw [e]; exact h2
    · exact h3 r hr
  · show fnK (b_least_one [some (.pu (.tuple ((q :: qs).map N)))]) = _
    unfold b_least_one
    simp [-List.map_cons, check_some_eq (qs := q :: qs) (by simp) hl, e2]
theorem greatest_eq {k : Nat} (hk : k + k < 7000) (q : Rat) (qs : List Rat) (hq : ∀ r ∈ q :: qs, Bd k r) (hl : (q :: qs).length ≤ 1000) : ∃ m, m ∈ q :: qs ∧ (∀ r ∈ q :: qs, r ≤ m) ∧ v_greatest_one [.tuple ((q :: qs).map N)] = .ok (N m) := by
  obtain ⟨m, z, e, h1, h2, h3⟩ := max_loop hk (T := some (.pu (.tuple ((q :: qs).map N)))) qs q none (hq q List.mem_cons_self) fun r hr => hq r (List.mem_cons_of_mem _ hr)
  have e2 : v_greatest_of [.tuple ((q :: qs).map N)] = .ok (N m) := by
    show fnK (b_greatest_of [some (.pu (.tuple ((q :: qs).map N))), none, none]) = _
    unfold b_greatest_of
    rw [List.map_cons] at e ⊢
    simp [cut_tail, e]
  refine ⟨m, ?_, ?_, ?_⟩
  · rcases h1 with h1 | h1
    · rw [h1]; exact List.mem_cons_self
    · exact List.mem_cons_of_mem _ h1
  · intro r hr
    rcases List.mem_cons.mp hr with e | hr
    · rw [e]; exact h2
    · exact h3 r hr
  · show fnK (b_greatest_one [some (.pu (.tuple ((q :: qs).map N)))]) = _
    unfold b_greatest_one
    simp [-List.map_cons, check_some_eq (qs := q :: qs) (by simp) hl, e2]
/-! ### points -/
def P (a b : Rat) : D := .tuple [N a, N b]
@[simp] theorem ixP0 (a b : Rat) : ixD (P a b) (.int 0) = .ok (N a) := rfl
@[simp] theorem ixP1 (a b : Rat) : ixD (P a b) (.int 1) = .ok (N b) := rfl
theorem is_point_eq (a b : Rat) : v_is_point [P a b] = .ok (.bool true) := by
  show fnK (b_is_point [some (.pu (P a b))]) = _
  unfold b_is_point P
  simp [isiK, tyName, kit_tt, eqD_int, isnum_N]
theorem check_pts {ds : List D} (hl : lineOk ds.length = true) (h : ∀ d ∈ ds, v_is_point [d] = .ok (.bool true)) : v_check_points [.tuple ds] = .ok .none := by
  show fnK (b_check_points [some (.pu (.tuple ds)), none]) = _
  unfold b_check_points
  have e : lcF (seqF (varD 0)) (nmG 1) yesB (callU 1 v_is_point (consA (varD 1) nilA)) [1] [some (.pu (.tuple ds)), none] = .ok (ds.map fun _ => .bool true) := by
    simp only [lcF_ap, seqF_ap, varD_zero, sqK_t, lcK_ok hl]
    exact compO_map (fun _ => .bool true) ds fun d hd => ⟨_, rfl, by simp [h d hd]⟩
  simp [-lcF_ap, e, allK_trues]
theorem check_P1 (a b : Rat) : v_check_points [.tuple [P a b]] = .ok .none := check_pts rfl (by simp [is_point_eq])
theorem check_P2 (a b c d : Rat) : v_check_points [.tuple [P a b, P c d]] = .ok .none := check_pts rfl (by simp [is_point_eq])
section
variable {a b c d : Rat} {k : Nat} (ha : Bd k a) (hb : Bd k b) (hc : Bd k c) (hd : Bd k d) (hk : k ≤ 1000)
include ha hb hc hd hk
theorem added_eq : v_added [P a b, P c d] = .ok (P (a + c) (b + d)) := by
  have e : v_sum_way [P a b, P c d] = .ok (P (a + c) (b + d)) := by
    show fnK (b_sum_way [some (.pu (P a b)), some (.pu (P c d))]) = _
    unfold b_sum_way
    simp [sum_eq ha hc (by omega), sum_eq hb hd (by omega)]
    rfl
  show fnK (b_added [some (.pu (P a b)), some (.pu (P c d))]) = _
  unfold b_added
  simp [check_P2, e]
theorem taken_eq : v_taken [P a b, P c d] = .ok (P (a - c) (b - d)) := by
  have e : v_way_between [P a b, P c d] = .ok (P (a - c) (b - d)) := by
    show fnK (b_way_between [some (.pu (P a b)), some (.pu (P c d))]) = _
    unfold b_way_between
    simp [diff_eq ha hc (by omega), diff_eq hb hd (by omega)]
    rfl
  show fnK (b_taken [some (.pu (P a b)), some (.pu (P c d))]) = _
  unfold b_taken
  simp [check_P2, e]
theorem dot_eq : v_dot [P a b, P c d] = .ok (N (a * c + b * d)) := by
  have e : v_dot_by [P a b, P c d] = .ok (N (a * c + b * d)) := by
    show fnK (b_dot_by [some (.pu (P a b)), some (.pu (P c d))]) = _
    unfold b_dot_by
    simp [prod_eq ha hc (by omega), prod_eq hb hd (by omega), sum_eq (mul_bd ha hc) (mul_bd hb hd) (by omega)]
  show fnK (b_dot [some (.pu (P a b)), some (.pu (P c d))]) = _
  unfold b_dot
  simp [check_P2, e]
theorem cross_eq : v_cross [P a b, P c d] = .ok (N (a * d - b * c)) := by
  have e : v_cross_by [P a b, P c d] = .ok (N (a * d - b * c)) := by
    show fnK (b_cross_by [some (.pu (P a b)), some (.pu (P c d))]) = _
    unfold b_cross_by
    simp [prod_eq ha hd (by omega), prod_eq hb hc (by omega), diff_eq (mul_bd ha hd) (mul_bd hb hc) (by omega)]
  show fnK (b_cross [some (.pu (P a b)), some (.pu (P c d))]) = _
  unfold b_cross
  simp [check_P2, e]
omit hd in
theorem stretched_eq : v_stretched [N c, P a b] = .ok (P (c * a) (c * b)) := by
  have e : v_way_times [N c, P a b] = .ok (P (c * a) (c * b)) := by
    show fnK (b_way_times [some (.pu (N c)), some (.pu (P a b))]) = _
    unfold b_way_times
    simp [prod_eq hc ha (by omega), prod_eq hc hb (by omega)]
    rfl
  show fnK (b_stretched [some (.pu (N c)), some (.pu (P a b))]) = _
  unfold b_stretched
  simp [check_P1, check_N1, e]
end
end Mt

namespace Mt
open PySem PySem.Spec PyProof.Rows L2 TD Dn TL
def Gd (ds : List Int) : Prop := ∀ x ∈ ds, 0 ≤ x ∧ x < 65521
theorem Gd.snoc {ds : List Int} {x : Int} (h : Gd ds) (h0 : 0 ≤ x) (h1 : x < 65521) : Gd (ds ++ [x]) := fun y hy => by
  rcases List.mem_append.mp hy with hy | hy
  · exact h y hy
  · rw [List.mem_singleton.mp hy]; exact ⟨h0, h1⟩
theorem modK {a : Int} (m : Int) (hm : 0 < m) : modD (.int a) (.int m) = .ok (.int (a % m)) := by
  rw [modD_int, decide_eq_true (show m ≠ 0 by omega), Int.fmod_eq_emod_of_nonneg _ (by omega)]; rfl
theorem fdivK {a : Int} (m : Int) (hm : 0 < m) (h : m < 1000000) : fdivD (.int a) (.int m) = .ok (.int (a / m)) := by
  have : m.natAbs.log2 ≤ 20 := log2_le (Nat.lt_of_lt_of_le (show m.natAbs < 1000000 by omega) (by decide))
  rw [fdivD_int, Int.fdiv_eq_ediv_of_nonneg _ (by omega)]
  unfold divOk
  rw [decide_eq_true (show m ≠ 0 by omega), decide_eq_true (by omega)]; rfl
theorem app_int {i : Nat} {ρ : EnvS} {ds : List Int} {x : Int} (h : ds.length ≤ 100000) : appK i (some (some (.ow (ds.map .int)))) (.ok (.int x)) ρ = .nx (ρ.set i (some (.ow ((ds ++ [x]).map .int)))) := by
  rw [appK_ok (by unfold lineOk; rw [List.length_map]; exact decide_eq_true (by omega)), List.map_append]
  rfl
theorem inner_loop {S M C : Option Sl} {seed : Int} : ∀ (ks : List D) (ds : List Int) (num : Int) (z : Option Sl), 0 ≤ num → Gd ds → ds.length + ks.length ≤ 100000 →
    ∃ ds' num' z', forO (nmG 6) (ifO (asF (bin2 gtD (varD 5) (cD (.int 0)))) (sqO (appO 2 (bin2 modD (callF intG (consA (varD 5) nilA)) (cD (.int 1009)))) (stO 5 (bin2 fdivD (varD 5) (cD (.int 1009))))) nxO) ks
      [S, M, some (.ow (ds.map .int)), some (.pu (.int seed)), C, some (.pu (.int num)), z] = .nx [S, M, some (.ow (ds'.map .int)), some (.pu (.int seed)), C, some (.pu (.int num')), z'] ∧ Gd ds' ∧ ds'.length ≤ ds.length + ks.length := by
  intro ks
  induction ks with
  | nil => exact fun ds num z _ hg _ => ⟨ds, num, z, rfl, hg, Nat.le_refl _⟩
  | cons d ks ih =>
    intro ds num z h0 hg hl
    rw [List.length_cons] at hl
    by_cases hp : 0 < num
    · obtain ⟨ds', num', z', e, h1, h2⟩ := ih (ds ++ [num % 1009]) (num / 1009) (some (.pu d)) (Int.ediv_nonneg h0 (by omega)) (hg.snoc (Int.emod_nonneg _ (by omega)) (by have := Int.emod_lt_of_pos num (show (0:Int) < 1009 by omega); omega)) (by rw [List.length_append, List.length_singleton]; omega)
      refine ⟨ds', num', z', ?_, h1, by rw [List.length_append, List.length_singleton] at h2; rw [List.length_cons]; omega⟩
      rw [forO_cons (ρ1 := [S, M, some (.ow (ds.map .int)), some (.pu (.int seed)), C, some (.pu (.int num)), some (.pu d)]) rfl]
      · exact e
      · simp only [ifO_ap, asF_ap, bin2_ap, varD_zero, varD_succ, cD_ap, k2_ok, gtD_int, decide_eq_true hp, asB_ok, ifK_t, sqO_ap, appO_ap, callF_ap, consA_ap, nilA_ap, cnK_ok, R.ok_bind, intG_int, modK 1009 (by omega), List.getElem?_cons_succ, List.getElem?_cons_zero, app_int (show ds.length ≤ 100000 by omega), Out.nx_seq, List.set, stO_ap, fdivK 1009 (by omega) (by omega), stK_ok]
    · obtain ⟨ds', num', z', e, h1, h2⟩ := ih ds num (some (.pu d)) h0 hg (by omega)
      refine ⟨ds', num', z', ?_, h1, by rw [List.length_cons]; omega⟩
      rw [forO_cons (ρ1 := [S, M, some (.ow (ds.map .int)), some (.pu (.int seed)), C, some (.pu (.int num)), some (.pu d)]) rfl]
      · exact e
      · simp only [ifO_ap, asF_ap, bin2_ap, varD_zero, varD_succ, cD_ap, k2_ok, gtD_int, decide_eq_false hp, asB_ok, ifK_f, nxO_ap]
theorem small_bits {a : Int} (h0 : 0 ≤ a) (h : a < 2147483647) : a.natAbs < 2 ^ 31 := by
  have : (2:Nat) ^ 31 = 2147483648 := by decide
  omega
theorem cell_loop {S M : Option Sl} : ∀ (cs : List Int) (ds : List Int) (seed : Int) (y w z : Option Sl), 0 ≤ seed → seed < 2147483647 → Gd ds → ds.length + 60 * cs.length ≤ 50000 →
    ∃ ds' seed' y' w' z', forO (nmG 4) (sqO (stO 5 (callF absK (consA (varD 4) nilA)))
  (sqO (stO 3 (bin2 modD (callF intG (consA (bin2 addD (bin2 addD (bin2 mulD (varD 3) (cD (.int 48271))) (varD 5)) (cD (.int 11))) nilA)) (cD (.int 2147483647))))
  (ifO (asF (bin2 geD (varD 5) (bin2 powD (cD (.int 10)) (cD (.int 18)))))
  (loO (rng1F (cD (.int 60))) (nmG 6)
  (ifO (asF (bin2 gtD (varD 5) (cD (.int 0))))
  (sqO (appO 2 (bin2 modD (callF intG (consA (varD 5) nilA)) (cD (.int 1009))))
  (stO 5 (bin2 fdivD (varD 5) (cD (.int 1009)))))
  nxO))
  (appO 2 (bin2 modD (bin2 fdivD (callF intG (consA (bin2 addD (bin2 mulD (varD 3) (cD (.int 16807))) (cD (.int 5))) nilA)) (cD (.int 3))) (cD (.int 65521))))))) (cs.map .int)
      [S, M, some (.ow (ds.map .int)), some (.pu (.int seed)), y, w, z] = .nx [S, M, some (.ow (ds'.map .int)), some (.pu (.int seed')), y', w', z'] ∧ Gd ds' ∧ ds'.length ≤ ds.length + 60 * cs.length ∧ 0 ≤ seed' ∧ seed' < 2147483647 := by
  intro cs
  induction cs with
  | nil => exact fun ds seed y w z h0 h1 hg _ => ⟨ds, seed, y, w, z, rfl, hg, Nat.le_refl _, h0, h1⟩
  | cons c cs ih =>
    intro ds seed y w z h0 h1 hg hl
    rw [List.length_cons] at hl
    have hm1 : mulD (.int seed) (.int 48271) = .ok (.int (seed * 48271)) := mulD_ok (small_bits h0 h1) (show (48271 : Int).natAbs < 2 ^ 16 by decide) (by decide)
    generalize hs2 : (seed * 48271 + (if c < 0 then -c else c) + 11) % 2147483647 = s2
    have s20 : 0 ≤ s2 := by rw [← hs2]; exact Int.emod_nonneg _ (by omega)
    have s21 : s2 < 2147483647 := by rw [← hs2]; exact Int.emod_lt_of_pos _ (by omega)
    have hm2 : mulD (.int s2) (.int 16807) = .ok (.int (s2 * 16807)) := mulD_ok (small_bits s20 s21) (show (16807 : Int).natAbs < 2 ^ 16 by decide) (by decide)
    have hpw : powD (.int 10) (.int 18) = .ok (.int 1000000000000000000) := by rfl
    generalize hn : (if c < 0 then -c else c) = n at hs2
    have hn0 : 0 ≤ n := by rw [← hn]; split <;> omega
    by_cases hbig : 1000000000000000000 ≤ n
    · obtain ⟨ds1, n1, z1, e1, g1, l1⟩ := inner_loop (S := S) (M := M) (C := some (.pu (.int c))) (seed := s2) (rngD 0 60) ds n z hn0 hg (by unfold rngD; rw [List.length_map, List.length_range]; omega)
      have hr : (rngD 0 60).length = 60 := by unfold rngD; rw [List.length_map, List.length_range]
      obtain ⟨ds', seed', y', w', z', e, h2, h3, h4, h5⟩ := ih ds1 s2 (some (.pu (.int c))) (some (.pu (.int n1))) z1 s20 s21 g1 (by omega)
      refine ⟨ds', seed', y', w', z', ?_, h2, by rw [List.length_cons]; omega, h4, h5⟩
      rw [List.map_cons, forO_cons (ρ1 := [S, M, some (.ow (ds.map .int)), some (.pu (.int seed)), some (.pu (.int c)), w, z]) rfl]
      · exact e
      · simp only [sqO_ap, stO_ap, callF_ap, consA_ap, varD_zero, varD_succ, nilA_ap, cnK_ok, R.ok_bind, absK_int, hn, stK_ok, List.set, Out.nx_seq, bin2_ap, cD_ap, k2_ok, hm1, addD_int, intG_int, modK 2147483647 (by omega), hs2, ifO_ap, asF_ap, hpw, geD_int, decide_eq_true hbig, asB_ok, ifK_t, loO_ap, rng1F_ap]
        rw [show rgK (.ok (.int 60)) = .ok (rngD 0 60) from rfl, loK_ok]
        exact e1
    · have hx0 : 0 ≤ (s2 * 16807 + 5) / 3 % 65521 := Int.emod_nonneg _ (by omega)
      have hx1 : (s2 * 16807 + 5) / 3 % 65521 < 65521 := Int.emod_lt_of_pos _ (by omega)
      obtain ⟨ds', seed', y', w', z', e, h2, h3, h4, h5⟩ := ih (ds ++ [(s2 * 16807 + 5) / 3 % 65521]) s2 (some (.pu (.int c))) (some (.pu (.int n))) z s20 s21 (hg.snoc hx0 hx1) (by rw [List.length_append, List.length_singleton]; omega)
      refine ⟨ds', seed', y', w', z', ?_, h2, by rw [List.length_append, List.length_singleton] at h3; rw [List.length_cons]; omega, h4, h5⟩
      rw [List.map_cons, forO_cons (ρ1 := [S, M, some (.ow (ds.map .int)), some (.pu (.int seed)), some (.pu (.int c)), w, z]) rfl]
      · exact e
      · simp only [sqO_ap, stO_ap, callF_ap, consA_ap, varD_zero, varD_succ, nilA_ap, cnK_ok, R.ok_bind, absK_int, hn, stK_ok, List.set, Out.nx_seq, bin2_ap, cD_ap, k2_ok, hm1, addD_int, intG_int, modK 2147483647 (by omega), hs2, ifO_ap, asF_ap, hpw, geD_int, decide_eq_false hbig, asB_ok, ifK_f, appO_ap, hm2, fdivK 3 (by omega) (by omega), modK 65521 (by omega), List.getElem?_cons_succ, List.getElem?_cons_zero, app_int (show ds.length ≤ 100000 by omega)]
theorem fill_loop {S : Option Sl} {m : Nat} (hm : m ≤ 1000) : ∀ (ks : List Int) (ds : List Int) (seed : Int) (y w z : Option Sl), 0 ≤ seed → seed < 2147483647 → Gd ds → ds.length ≤ 50000 →
    ∃ ds' seed' z', forO (nmG 6)
  (ifO (asF (bin2 ltD (callF (fun ds => .ok (.int ds.length)) (ownD 2)) (varD 1)))
  (sqO (stO 3 (bin2 modD (callF intG (consA (bin2 addD (bin2 addD (bin2 mulD (varD 3) (cD (.int 69621))) (varD 6)) (cD (.int 1))) nilA)) (cD (.int 2147483647))))
  (appO 2 (bin2 modD (bin2 fdivD (callF intG (consA (varD 3) nilA)) (cD (.int 7))) (cD (.int 65521)))))
  nxO) (ks.map .int)
      [S, some (.pu (.int m)), some (.ow (ds.map .int)), some (.pu (.int seed)), y, w, z] = .nx [S, some (.pu (.int m)), some (.ow (ds'.map .int)), some (.pu (.int seed')), y, w, z'] ∧ Gd ds' ∧ (m ≤ ds'.length ∨ ds.length + ks.length ≤ ds'.length) := by
  intro ks
  induction ks with
  | nil => exact fun ds seed y w z h0 h1 hg _ => ⟨ds, seed, z, rfl, hg, .inr (Nat.le_refl _)⟩
  | cons c cs ih =>
    intro ds seed y w z h0 h1 hg hl
    have hm1 : mulD (.int seed) (.int 69621) = .ok (.int (seed * 69621)) := mulD_ok (small_bits h0 h1) (show (69621 : Int).natAbs < 2 ^ 17 by decide) (by decide)
    have hown : (R.ok (List.map PyData.int ds)).bind (fun ds => R.ok (PyData.int ds.length)) = .ok (.int ds.length) := by
      rw [R.ok_bind, List.length_map]
    by_cases hlt : (ds.length : Int) < m
    · generalize hs2 : (seed * 69621 + c + 1) % 2147483647 = s2
      have s20 : 0 ≤ s2 := by rw [← hs2]; exact Int.emod_nonneg _ (by omega)
      have s21 : s2 < 2147483647 := by rw [← hs2]; exact Int.emod_lt_of_pos _ (by omega)
      have hx0 : 0 ≤ s2 / 7 % 65521 := Int.emod_nonneg _ (by omega)
      have hx1 : s2 / 7 % 65521 < 65521 := Int.emod_lt_of_pos _ (by omega)
      obtain ⟨ds', seed', z', e, h2, h3⟩ := ih (ds ++ [s2 / 7 % 65521]) s2 y w (some (.pu (.int c))) s20 s21 (hg.snoc hx0 hx1) (by rw [List.length_append, List.length_singleton]; omega)
      refine ⟨ds', seed', z', ?_, h2, by rw [List.length_append, List.length_singleton] at h3; rw [List.length_cons]; omega⟩
      rw [List.map_cons, forO_cons (ρ1 := [S, some (.pu (.int m)), some (.ow (ds.map .int)), some (.pu (.int seed)), y, w, some (.pu (.int c))]) rfl]
      · exact e
      · simp only [ifO_ap, asF_ap, bin2_ap, callF_ap, ownD_zero, ownD_succ, hown, varD_zero, varD_succ, k2_ok, ltD_int, decide_eq_true hlt, asB_ok, ifK_t, sqO_ap, stO_ap, consA_ap, nilA_ap, cnK_ok, R.ok_bind, stK_ok, List.set, Out.nx_seq, cD_ap, hm1, addD_int, intG_int, modK 2147483647 (by omega), hs2, appO_ap, fdivK 7 (by omega) (by omega), modK 65521 (by omega), List.getElem?_cons_succ, List.getElem?_cons_zero, app_int (show ds.length ≤ 100000 by omega)]
    · obtain ⟨ds', seed', z', e, h2, h3⟩ := ih ds seed y w (some (.pu (.int c))) h0 h1 hg hl
      refine ⟨ds', seed', z', ?_, h2, .inl (by rcases h3 with h3 | h3 <;> omega)⟩
      rw [List.map_cons, forO_cons (ρ1 := [S, some (.pu (.int m)), some (.ow (ds.map .int)), some (.pu (.int seed)), y, w, some (.pu (.int c))]) rfl]
      · exact e
      · simp only [ifO_ap, asF_ap, bin2_ap, callF_ap, ownD_zero, ownD_succ, hown, varD_zero, varD_succ, k2_ok, ltD_int, decide_eq_false hlt, asB_ok, ifK_f, nxO_ap]
theorem cut_take {α : Type} (xs : List α) (m : Nat) : TD.cutD xs none (some (m : Int)) = xs.take m := by
  unfold TD.cutD
  rw [HT.sIx_none, HT.sIx_nat, List.drop_zero, Nat.sub_zero]
  by_cases h : m ≤ xs.length
  · rw [Nat.min_eq_left h]
  · rw [Nat.min_eq_right (by omega), List.take_of_length_le (Nat.le_refl _), List.take_of_length_le (by omega)]
theorem rg_ok {m : Nat} (hm : m ≤ 1000) : rgK (.ok (.int m)) = .ok (rngD 0 m) := by
  have h3 : rngOk (m : Int) = true := by
    unfold rngOk
    rw [Bool.and_eq_true, decide_eq_true_eq, decide_eq_true_eq]
    have e : (2:Int) ^ 62 = 4611686018427387904 := rfl
    rw [e]
    omega
  unfold rgK
  rw [R.ok_bind]
  dsimp only
  rw [if_pos h3, Int.toNat_natCast]
theorem draws_eq (ns : List Int) (m : Nat) (hm : m ≤ 1000) : ∃ ds : List Int, ds.length = m ∧ Gd ds ∧ v__law_draws [scrD ns, .int m] = .ok (.list (ds.map .int)) := by
  obtain ⟨d1, s1, y1, w1, z1, e1, g1, l1, a1, b1⟩ := cell_loop (S := some (.pu (scrD ns))) (M := some (.pu (.int m))) (ns.take 63) [] 7 none none none (by omega) (by omega) (fun x h => absurd h List.not_mem_nil) (by
    have := List.length_take_le 63 ns
    simp only [List.length_nil]; omega)
  have hl1 : d1.length ≤ 50000 := by
    have := List.length_take_le 63 ns
    simp only [List.length_nil] at l1; omega
  obtain ⟨d2, s2, z2, e2, g2, l2⟩ := fill_loop (S := some (.pu (scrD ns))) hm ((List.range m).map fun i => (0 : Int) + (i : Nat)) d1 s1 y1 w1 z1 a1 b1 g1 hl1
  rw [List.map_map] at e2
  rw [List.length_map, List.length_range] at l2
  refine ⟨d2.take m, by rw [List.length_take]; omega, fun x hx => g2 x (List.mem_of_mem_take hx), ?_⟩
  show fnK (b__law_draws [some (.pu (scrD ns)), some (.pu (.int m)), none, none, none, none, none]) = _
  unfold b__law_draws
  have hS : slcL (asSF (varD 0)) noP (someP (cD (.int 63))) [some (.pu (scrD ns)), some (.pu (.int m)), some (.ow []), some (.pu (.int 7)), none, none, none] = .ok ((ns.take 63).map .int) := by
    rw [slcL_ap, show asSF (varD 0) [some (.pu (scrD ns)), some (.pu (.int m)), some (.ow []), some (.pu (.int 7)), none, none, none] = .ok (ns.map .int) from rfl, noP_ap, someP_ap, cD_ap, smK_ok, slLK_ok]
    rw [show (63 : Int) = ((63 : Nat) : Int) from rfl, cut_take, List.map_take]
  have hR := rg_ok hm
  simp only [sqO_ap, owO_ap, newD_ap, nilA_ap, nwK_0, owK_ok, List.set, Out.nx_seq, stO_ap, cD_ap, stK_ok, loO_ap, seqF_ap, lstF_ap, hS, lsK_ok, sqK_l, loK_ok]
  rw [List.map_nil] at e1
  rw [e1]
  rw [Out.nx_seq, sqO_ap, loO_ap, rng1F_ap, varD_succ, varD_zero, hR, loK_ok]
  rw [show rngD 0 m = List.map (PyData.int ∘ fun i : Nat => (0 : Int) + (i : Nat)) (List.range m) from rfl, e2]
  simp only [sqO_ap, Out.nx_seq, rtO_ap, lstF_ap, slcL_ap, ownD_zero, ownD_succ, noP_ap, someP_ap, varD_zero, varD_succ, smK_ok, slLK_ok, cut_take, lsK_ok, rtK_ok, fnK_rt, List.map_take]
end Mt

namespace Mt
open PySem PySem.Spec PyProof.Rows L2 TD Dn TL
theorem n1 : (("BadPoint" : Str) = ("BadNumber" : Str)) = False := eq_false (by decide +kernel)
theorem n2 : (("BadText" : Str) = ("BadNumber" : Str)) = False := eq_false (by decide +kernel)
theorem n3 : (("BadText" : Str) = ("BadPoint" : Str)) = False := eq_false (by decide +kernel)
theorem hdG {X Y Z x : Str} {ρ : EnvS} {a b c : EnvS → Out} (hx : x = X ∨ x = Y ∨ x = Z) (hxy : X ≠ Y) (hxz : X ≠ Z) (hyz : Y ≠ Z) {d : D} (h : (if x = X then a ρ else if x = Y then b ρ else c ρ) = .rt d) : hdO [X, Y, Z] x ρ [(X, a), (Y, b), (Z, c)] = .rt d := by
  rcases hx with rfl | rfl | rfl
  · rw [if_pos rfl] at h
    simp [hdO, h]
  · rw [if_neg (Ne.symm hxy), if_pos rfl] at h
    simp [hdO, h, Ne.symm hxy]
  · rw [if_neg (Ne.symm hxz), if_neg (Ne.symm hyz)] at h
    simp [hdO, h, Ne.symm hxz, Ne.symm hyz]
theorem e12 : ("BadNumber" : Str) ≠ "BadPoint" := fun e => by have := e.symm; rwa [n1] at this
theorem e13 : ("BadNumber" : Str) ≠ "BadText" := fun e => by have := e.symm; rwa [n2] at this
theorem e23 : ("BadPoint" : Str) ≠ "BadText" := fun e => by have := e.symm; rwa [n3] at this
theorem hfG {X Y Z x : Str} {ρ : EnvS} {a b c k : EnvS → Out} (hx : x = X ∨ x = Y ∨ x = Z) (hxy : X ≠ Y) (hxz : X ≠ Z) (hyz : Y ≠ Z) {d : D} (h : (if x = X then a ρ else if x = Y then b ρ else c ρ) = .rt d) : fnK ((tryK [X, Y, Z] (.ex x ρ) [(X, a), (Y, b), (Z, c)]).seq k) = .ok d := by
  rw [tryK_ex, hdG hx hxy hxz hyz h]; rfl
theorem hf1 {ρ : EnvS} {k a b c : EnvS → Out} {d : D} (h : a ρ = .rt d) : fnK ((tryK ["BadNumber", "BadPoint", "BadText"] (.ex "BadNumber" ρ) [("BadNumber", a), ("BadPoint", b), ("BadText", c)]).seq k) = .ok d :=
  hfG (.inl rfl) e12 e13 e23 (by rw [if_pos rfl, h])
theorem hf2 {ρ : EnvS} {k a b c : EnvS → Out} {d : D} (h : b ρ = .rt d) : fnK ((tryK ["BadNumber", "BadPoint", "BadText"] (.ex "BadPoint" ρ) [("BadNumber", a), ("BadPoint", b), ("BadText", c)]).seq k) = .ok d :=
  hfG (.inr (.inl rfl)) e12 e13 e23 (by rw [if_neg (Ne.symm e12), if_pos rfl, h])
theorem hf3 {ρ : EnvS} {k a b c : EnvS → Out} {d : D} (h : c ρ = .rt d) : fnK ((tryK ["BadNumber", "BadPoint", "BadText"] (.ex "BadText" ρ) [("BadNumber", a), ("BadPoint", b), ("BadText", c)]).seq k) = .ok d :=
  hfG (.inr (.inr rfl)) e12 e13 e23 (by rw [if_neg (Ne.symm e13), if_neg (Ne.symm e23), h])
theorem ifc_f {c k : Int} {o o' : EnvS → Out} {r : EnvS} (h : c ≠ k) : ifO (asF (bin2 eqD (varD 0) (cD (.int k)))) o o' (some (.pu (.int c)) :: r) = o' (some (.pu (.int c)) :: r) := by
  rw [ifO_ap, asF_ap, bin2_ap, varD_zero, cD_ap, k2_ok, eqD_int, decide_eq_false h, asB_ok, ifK_f]
theorem ifc_t {c : Int} {o o' : EnvS → Out} {r : EnvS} : ifO (asF (bin2 eqD (varD 0) (cD (.int c)))) o o' (some (.pu (.int c)) :: r) = o (some (.pu (.int c)) :: r) := by
  rw [ifO_ap, asF_ap, bin2_ap, varD_zero, cD_ap, k2_ok, eqD_int, decide_eq_true rfl, asB_ok, ifK_t]
section
variable {one two : D}
theorem ca2 {F : List D → R D} {c : D} : exO (callU 2 F (consA (varD 1) (consA (varD 2) nilA))) [some (.pu c), some (.pu one), some (.pu two)] = exK (F [one, two]) [some (.pu c), some (.pu one), some (.pu two)] := rfl
theorem ca1 {F : List D → R D} {c : D} : exO (callU 1 F (consA (varD 1) nilA)) [some (.pu c), some (.pu one), some (.pu two)] = exK (F [one]) [some (.pu c), some (.pu one), some (.pu two)] := rfl
theorem er0_number (h : v_plus [one, two] = .ex "BadNumber") : v__law_error [.int 0, one, two] = .ok (.str "number") := by
  show fnK (b__law_error [some (.pu (.int 0)), some (.pu one), some (.pu two)]) = _
  unfold b__law_error
  rw [sqO_ap, tryO_ap, ifc_t, ca2, h, exK_ex, hf1 (d := .str "number") rfl]
theorem er1_number (h : v_minus [one, two] = .ex "BadNumber") : v__law_error [.int 1, one, two] = .ok (.str "number") := by
  show fnK (b__law_error [some (.pu (.int 1)), some (.pu one), some (.pu two)]) = _
  unfold b__law_error
  rw [sqO_ap, tryO_ap, ifc_f (by decide), ifc_t, ca2, h, exK_ex, hf1 (d := .str "number") rfl]
theorem er2_number (h : v_times [one, two] = .ex "BadNumber") : v__law_error [.int 2, one, two] = .ok (.str "number") := by
  show fnK (b__law_error [some (.pu (.int 2)), some (.pu one), some (.pu two)]) = _
  unfold b__law_error
  rw [sqO_ap, tryO_ap, ifc_f (by decide), ifc_f (by decide), ifc_t, ca2, h, exK_ex, hf1 (d := .str "number") rfl]
theorem er3_number (h : v_over [one, two] = .ex "BadNumber") : v__law_error [.int 3, one, two] = .ok (.str "number") := by
  show fnK (b__law_error [some (.pu (.int 3)), some (.pu one), some (.pu two)]) = _
  unfold b__law_error
  rw [sqO_ap, tryO_ap, ifc_f (by decide), ifc_f (by decide), ifc_f (by decide), ifc_t, ca2, h, exK_ex, hf1 (d := .str "number") rfl]
theorem er4_number (h : v_compare [one, two] = .ex "BadNumber") : v__law_error [.int 4, one, two] = .ok (.str "number") := by
  show fnK (b__law_error [some (.pu (.int 4)), some (.pu one), some (.pu two)]) = _
  unfold b__law_error
  rw [sqO_ap, tryO_ap, ifc_f (by decide), ifc_f (by decide), ifc_f (by decide), ifc_f (by decide), ifc_t, ca2, h, exK_ex, hf1 (d := .str "number") rfl]
theorem er5_number (h : v_ratio [one, two] = .ex "BadNumber") : v__law_error [.int 5, one, two] = .ok (.str "number") := by
  show fnK (b__law_error [some (.pu (.int 5)), some (.pu one), some (.pu two)]) = _
  unfold b__law_error
  rw [sqO_ap, tryO_ap, ifc_f (by decide), ifc_f (by decide), ifc_f (by decide), ifc_f (by decide), ifc_f (by decide), ifc_t, ca2, h, exK_ex, hf1 (d := .str "number") rfl]
theorem er6_number (h : v_turned [one] = .ex "BadNumber") : v__law_error [.int 6, one, two] = .ok (.str "number") := by
  show fnK (b__law_error [some (.pu (.int 6)), some (.pu one), some (.pu two)]) = _
  unfold b__law_error
  rw [sqO_ap, tryO_ap, ifc_f (by decide), ifc_f (by decide), ifc_f (by decide), ifc_f (by decide), ifc_f (by decide), ifc_f (by decide), ifc_t, ca1, h, exK_ex, hf1 (d := .str "number") rfl]
theorem er7_number (h : v_least_one [one] = .ex "BadNumber") : v__law_error [.int 7, one, two] = .ok (.str "number") := by
  show fnK (b__law_error [some (.pu (.int 7)), some (.pu one), some (.pu two)]) = _
  unfold b__law_error
  rw [sqO_ap, tryO_ap, ifc_f (by decide), ifc_f (by decide), ifc_f (by decide), ifc_f (by decide), ifc_f (by decide), ifc_f (by decide), ifc_f (by decide), ifc_t, ca1, h, exK_ex, hf1 (d := .str "number") rfl]
theorem er8_number (h : v_greatest_one [one] = .ex "BadNumber") : v__law_error [.int 8, one, two] = .ok (.str "number") := by
  show fnK (b__law_error [some (.pu (.int 8)), some (.pu one), some (.pu two)]) = _
  unfold b__law_error
  rw [sqO_ap, tryO_ap, ifc_f (by decide), ifc_f (by decide), ifc_f (by decide), ifc_f (by decide), ifc_f (by decide), ifc_f (by decide), ifc_f (by decide), ifc_f (by decide), ifc_t, ca1, h, exK_ex, hf1 (d := .str "number") rfl]
theorem er9_number (h : v_number_text [one] = .ex "BadNumber") : v__law_error [.int 9, one, two] = .ok (.str "number") := by
  show fnK (b__law_error [some (.pu (.int 9)), some (.pu one), some (.pu two)]) = _
  unfold b__law_error
  rw [sqO_ap, tryO_ap, ifc_f (by decide), ifc_f (by decide), ifc_f (by decide), ifc_f (by decide), ifc_f (by decide), ifc_f (by decide), ifc_f (by decide), ifc_f (by decide), ifc_f (by decide), ifc_t, ca1, h, exK_ex, hf1 (d := .str "number") rfl]
theorem er15_number (h : v_stretched [one, two] = .ex "BadNumber") : v__law_error [.int 15, one, two] = .ok (.str "number") := by
  show fnK (b__law_error [some (.pu (.int 15)), some (.pu one), some (.pu two)]) = _
  unfold b__law_error
  rw [sqO_ap, tryO_ap, ifc_f (by decide), ifc_f (by decide), ifc_f (by decide), ifc_f (by decide), ifc_f (by decide), ifc_f (by decide), ifc_f (by decide), ifc_f (by decide), ifc_f (by decide), ifc_f (by decide), ifc_f (by decide), ifc_f (by decide), ifc_f (by decide), ifc_f (by decide), ifc_f (by decide), ca2, h, exK_ex, hf1 (d := .str "number") rfl]
theorem er11_point (h : v_added [one, two] = .ex "BadPoint") : v__law_error [.int 11, one, two] = .ok (.str "point") := by
  show fnK (b__law_error [some (.pu (.int 11)), some (.pu one), some (.pu two)]) = _
  unfold b__law_error
  rw [sqO_ap, tryO_ap, ifc_f (by decide), ifc_f (by decide), ifc_f (by decide), ifc_f (by decide), ifc_f (by decide), ifc_f (by decide), ifc_f (by decide), ifc_f (by decide), ifc_f (by decide), ifc_f (by decide), ifc_f (by decide), ifc_t, ca2, h, exK_ex, hf2 (d := .str "point") rfl]
theorem er12_point (h : v_taken [one, two] = .ex "BadPoint") : v__law_error [.int 12, one, two] = .ok (.str "point") := by
  show fnK (b__law_error [some (.pu (.int 12)), some (.pu one), some (.pu two)]) = _
  unfold b__law_error
  rw [sqO_ap, tryO_ap, ifc_f (by decide), ifc_f (by decide), ifc_f (by decide), ifc_f (by decide), ifc_f (by decide), ifc_f (by decide), ifc_f (by decide), ifc_f (by decide), ifc_f (by decide), ifc_f (by decide), ifc_f (by decide), ifc_f (by decide), ifc_t, ca2, h, exK_ex, hf2 (d := .str "point") rfl]
theorem er13_point (h : v_dot [one, two] = .ex "BadPoint") : v__law_error [.int 13, one, two] = .ok (.str "point") := by
  show fnK (b__law_error [some (.pu (.int 13)), some (.pu one), some (.pu two)]) = _
  unfold b__law_error
  rw [sqO_ap, tryO_ap, ifc_f (by decide), ifc_f (by decide), ifc_f (by decide), ifc_f (by decide), ifc_f (by decide), ifc_f (by decide), ifc_f (by decide), ifc_f (by decide), ifc_f (by decide), ifc_f (by decide), ifc_f (by decide), ifc_f (by decide), ifc_f (by decide), ifc_t, ca2, h, exK_ex, hf2 (d := .str "point") rfl]
theorem er14_point (h : v_cross [one, two] = .ex "BadPoint") : v__law_error [.int 14, one, two] = .ok (.str "point") := by
  show fnK (b__law_error [some (.pu (.int 14)), some (.pu one), some (.pu two)]) = _
  unfold b__law_error
  rw [sqO_ap, tryO_ap, ifc_f (by decide), ifc_f (by decide), ifc_f (by decide), ifc_f (by decide), ifc_f (by decide), ifc_f (by decide), ifc_f (by decide), ifc_f (by decide), ifc_f (by decide), ifc_f (by decide), ifc_f (by decide), ifc_f (by decide), ifc_f (by decide), ifc_f (by decide), ifc_t, ca2, h, exK_ex, hf2 (d := .str "point") rfl]
theorem er15_point (h : v_stretched [one, two] = .ex "BadPoint") : v__law_error [.int 15, one, two] = .ok (.str "point") := by
  show fnK (b__law_error [some (.pu (.int 15)), some (.pu one), some (.pu two)]) = _
  unfold b__law_error
  rw [sqO_ap, tryO_ap, ifc_f (by decide), ifc_f (by decide), ifc_f (by decide), ifc_f (by decide), ifc_f (by decide), ifc_f (by decide), ifc_f (by decide), ifc_f (by decide), ifc_f (by decide), ifc_f (by decide), ifc_f (by decide), ifc_f (by decide), ifc_f (by decide), ifc_f (by decide), ifc_f (by decide), ca2, h, exK_ex, hf2 (d := .str "point") rfl]
theorem er10_text (h : v_number_of [one] = .ex "BadText") : v__law_error [.int 10, one, two] = .ok (.str "text") := by
  show fnK (b__law_error [some (.pu (.int 10)), some (.pu one), some (.pu two)]) = _
  unfold b__law_error
  rw [sqO_ap, tryO_ap, ifc_f (by decide), ifc_f (by decide), ifc_f (by decide), ifc_f (by decide), ifc_f (by decide), ifc_f (by decide), ifc_f (by decide), ifc_f (by decide), ifc_f (by decide), ifc_f (by decide), ifc_t, ca1, h, exK_ex, hf3 (d := .str "text") rfl]
end
end Mt

namespace Mt
open PySem PySem.Spec PyProof.Rows L2 TD Dn TL
theorem isint_bool (b : Bool) : v_is_integer [.bool b] = .ok (.bool false) := isint_other (.inr rfl) rfl
theorem isint_none : v_is_integer [.none] = .ok (.bool false) := isint_other (.inl rfl) rfl
theorem isint_str (s : Str) : v_is_integer [.str s] = .ok (.bool false) := isint_other (.inl rfl) rfl
theorem isint_tuple (s : List D) : v_is_integer [.tuple s] = .ok (.bool false) := isint_other (.inl rfl) rfl
theorem num_false {d : D} (hd : isDict d = false) (h : isT d = false) : v_is_number [d] = .ok (.bool false) := by
  show fnK (b_is_number [some (.pu d)]) = _
  unfold b_is_number
  cases d <;> first | (cases hd; done) | (cases h; done) | simp [isiK, tyName, kit_it, kit_bt, kit_st, kit_nt, kit_lt]
theorem num_two {a b : D} {x y : Bool} (ha : v_is_integer [a] = .ok (.bool x)) (hb : v_is_integer [b] = .ok (.bool y)) (h : (x && y) = false) : v_is_number [.tuple [a, b]] = .ok (.bool false) := by
  show fnK (b_is_number [some (.pu (.tuple [a, b]))]) = _
  unfold b_is_number
  cases x
  · simp [isiK, tyName, kit_tt, neD_int, ha]
  · cases y
    · simp [isiK, tyName, kit_tt, neD_int, ha, hb]
    · cases h
theorem num_one (a : D) : v_is_number [.tuple [a]] = .ok (.bool false) := by
  show fnK (b_is_number [some (.pu (.tuple [a]))]) = _
  unfold b_is_number
  simp [isiK, tyName, kit_tt, neD_int]
def good : D := .tuple [.int 1, .int 2]
def way : D := .tuple [good, .tuple [.int 0, .int 1]]
theorem num_good : v_is_number [good] = .ok (.bool true) := by unfold good; rw [isnum_pair]; rfl
theorem num_zero : v_is_number [.tuple [.int 0, .int 1]] = .ok (.bool true) := by rw [isnum_pair]; rfl
theorem num_way : v_is_number [way] = .ok (.bool false) := num_two (isint_tuple _) (isint_tuple _) rfl
theorem chk2 {a b : D} {x y : Bool} (ha : v_is_number [a] = .ok (.bool x)) (hb : v_is_number [b] = .ok (.bool y)) : v_check_numbers [.tuple [a, b]] = if x && y then .ok .none else .ex "BadNumber" := by
  show fnK (b_check_numbers [some (.pu (.tuple [a, b])), none]) = _
  unfold b_check_numbers
  have e : lcF (seqF (varD 0)) (nmG 1) yesB (callU 1 v_is_number (consA (varD 1) nilA)) [1] [some (.pu (.tuple [a, b])), none] = .ok [.bool x, .bool y] := by
    rw [lcF_ap, seqF_ap, varD_zero, sqK_t, lcK_ok rfl]
    exact compO_cons rfl (by simp [ha]) (compO_cons rfl (by simp [hb]) rfl)
  have e2 : allK [.bool x, .bool y] = .ok (.bool (x && y)) := by cases x <;> cases y <;> rfl
  simp only [ifO_ap, notB_ap, asF_ap, callF_ap, e, R.ok_bind, e2, asB_ok, notK_ok]
  cases x <;> cases y <;> rfl
theorem chk1 {a : D} {x : Bool} (ha : v_is_number [a] = .ok (.bool x)) : v_check_numbers [.tuple [a]] = if x then .ok .none else .ex "BadNumber" := by
  show fnK (b_check_numbers [some (.pu (.tuple [a])), none]) = _
  unfold b_check_numbers
  have e : lcF (seqF (varD 0)) (nmG 1) yesB (callU 1 v_is_number (consA (varD 1) nilA)) [1] [some (.pu (.tuple [a])), none] = .ok [.bool x] := by
    rw [lcF_ap, seqF_ap, varD_zero, sqK_t, lcK_ok rfl]
    exact compO_cons rfl (by simp [ha]) rfl
  have e2 : allK [.bool x] = .ok (.bool x) := by cases x <;> rfl
  simp only [ifO_ap, notB_ap, asF_ap, callF_ap, e, R.ok_bind, e2, asB_ok, notK_ok]
  cases x <;> rfl
theorem pt_two {a b : D} {x y : Bool} (ha : v_is_number [a] = .ok (.bool x)) (hb : v_is_number [b] = .ok (.bool y)) : v_is_point [.tuple [a, b]] = .ok (.bool (x && y)) := by
  show fnK (b_is_point [some (.pu (.tuple [a, b]))]) = _
  unfold b_is_point
  cases x
  · simp [isiK, tyName, kit_tt, eqD_int, ha]
  · simp [isiK, tyName, kit_tt, eqD_int, ha, hb]
theorem pt_one (a : D) : v_is_point [.tuple [a]] = .ok (.bool false) := by
  show fnK (b_is_point [some (.pu (.tuple [a]))]) = _
  unfold b_is_point
  simp [isiK, tyName, kit_tt, eqD_int]
theorem pt_way : v_is_point [way] = .ok (.bool true) := pt_two num_good num_zero
theorem cpt2 {a b : D} {x y : Bool} (ha : v_is_point [a] = .ok (.bool x)) (hb : v_is_point [b] = .ok (.bool y)) : v_check_points [.tuple [a, b]] = if x && y then .ok .none else .ex "BadPoint" := by
  show fnK (b_check_points [some (.pu (.tuple [a, b])), none]) = _
  unfold b_check_points
  have e : lcF (seqF (varD 0)) (nmG 1) yesB (callU 1 v_is_point (consA (varD 1) nilA)) [1] [some (.pu (.tuple [a, b])), none] = .ok [.bool x, .bool y] := by
    rw [lcF_ap, seqF_ap, varD_zero, sqK_t, lcK_ok rfl]
    exact compO_cons rfl (by simp [ha]) (compO_cons rfl (by simp [hb]) rfl)
  have e2 : allK [.bool x, .bool y] = .ok (.bool (x && y)) := by cases x <;> cases y <;> rfl
  simp only [ifO_ap, notB_ap, asF_ap, callF_ap, e, R.ok_bind, e2, asB_ok, notK_ok]
  cases x <;> cases y <;> rfl
theorem cpt1 {a : D} {x : Bool} (ha : v_is_point [a] = .ok (.bool x)) : v_check_points [.tuple [a]] = if x then .ok .none else .ex "BadPoint" := by
  show fnK (b_check_points [some (.pu (.tuple [a])), none]) = _
  unfold b_check_points
  have e : lcF (seqF (varD 0)) (nmG 1) yesB (callU 1 v_is_point (consA (varD 1) nilA)) [1] [some (.pu (.tuple [a])), none] = .ok [.bool x] := by
    rw [lcF_ap, seqF_ap, varD_zero, sqK_t, lcK_ok rfl]
    exact compO_cons rfl (by simp [ha]) rfl
  have e2 : allK [.bool x] = .ok (.bool x) := by cases x <;> rfl
  simp only [ifO_ap, notB_ap, asF_ap, callF_ap, e, R.ok_bind, e2, asB_ok, notK_ok]
  cases x <;> rfl
section
variable {a b : D} {x y : Bool} (ha : v_is_number [a] = .ok (.bool x)) (hb : v_is_number [b] = .ok (.bool y)) (h : (x && y) = false)
include ha hb h
theorem bad_plus : v_plus [a, b] = .ex "BadNumber" := by
  show fnK (b_plus [some (.pu a), some (.pu b)]) = _
  unfold b_plus
  simp [chk2 ha hb, -Bool.and_eq_true, h]
theorem bad_minus : v_minus [a, b] = .ex "BadNumber" := by
  show fnK (b_minus [some (.pu a), some (.pu b)]) = _
  unfold b_minus
  simp [chk2 ha hb, -Bool.and_eq_true, h]
theorem bad_times : v_times [a, b] = .ex "BadNumber" := by
  show fnK (b_times [some (.pu a), some (.pu b)]) = _
  unfold b_times
  simp [chk2 ha hb, -Bool.and_eq_true, h]
theorem bad_over : v_over [a, b] = .ex "BadNumber" := by
  show fnK (b_over [some (.pu a), some (.pu b)]) = _
  unfold b_over
  simp [chk2 ha hb, -Bool.and_eq_true, h]
theorem bad_compare : v_compare [a, b] = .ex "BadNumber" := by
  show fnK (b_compare [some (.pu a), some (.pu b)]) = _
  unfold b_compare
  simp [chk2 ha hb, -Bool.and_eq_true, h]
theorem bad_least_one : v_least_one [.tuple [a, b]] = .ex "BadNumber" := by
  have e : v__check_some [.tuple [a, b]] = .ex "BadNumber" := by
    show fnK (b__check_some [some (.pu (.tuple [a, b]))]) = _
    unfold b__check_some
    simp [isiK, tyName, kit_tt, eqD_int, chk2 ha hb, -Bool.and_eq_true, h]
  show fnK (b_least_one [some (.pu (.tuple [a, b]))]) = _
  unfold b_least_one
  simp [e]
theorem bad_greatest_one : v_greatest_one [.tuple [a, b]] = .ex "BadNumber" := by
  have e : v__check_some [.tuple [a, b]] = .ex "BadNumber" := by
    show fnK (b__check_some [some (.pu (.tuple [a, b]))]) = _
    unfold b__check_some
    simp [isiK, tyName, kit_tt, eqD_int, chk2 ha hb, -Bool.and_eq_true, h]
  show fnK (b_greatest_one [some (.pu (.tuple [a, b]))]) = _
  unfold b_greatest_one
  simp [e]
end
section
variable {a b : D} {x y : Bool} (ha : v_is_point [a] = .ok (.bool x)) (hb : v_is_point [b] = .ok (.bool y)) (h : (x && y) = false)
include ha hb h
theorem bad_added : v_added [a, b] = .ex "BadPoint" := by
  show fnK (b_added [some (.pu a), some (.pu b)]) = _
  unfold b_added
  simp [cpt2 ha hb, -Bool.and_eq_true, h]
theorem bad_taken : v_taken [a, b] = .ex "BadPoint" := by
  show fnK (b_taken [some (.pu a), some (.pu b)]) = _
  unfold b_taken
  simp [cpt2 ha hb, -Bool.and_eq_true, h]
theorem bad_dot : v_dot [a, b] = .ex "BadPoint" := by
  show fnK (b_dot [some (.pu a), some (.pu b)]) = _
  unfold b_dot
  simp [cpt2 ha hb, -Bool.and_eq_true, h]
theorem bad_cross : v_cross [a, b] = .ex "BadPoint" := by
  show fnK (b_cross [some (.pu a), some (.pu b)]) = _
  unfold b_cross
  simp [cpt2 ha hb, -Bool.and_eq_true, h]
end
section
variable {a b : D} (ha : v_is_number [a] = .ok (.bool false))
include ha
theorem bad_turned : v_turned [a] = .ex "BadNumber" := by
  show fnK (b_turned [some (.pu a)]) = _
  unfold b_turned
  simp [chk1 ha]
theorem bad_number_text : v_number_text [a] = .ex "BadNumber" := by
  show fnK (b_number_text [some (.pu a)]) = _
  unfold b_number_text
  simp [chk1 ha]
theorem bad_stretched : v_stretched [a, b] = .ex "BadNumber" := by
  show fnK (b_stretched [some (.pu a), some (.pu b)]) = _
  unfold b_stretched
  simp [chk1 ha]
end
theorem badp_stretched {a b : D} (ha : v_is_number [a] = .ok (.bool true)) (hb : v_is_point [b] = .ok (.bool false)) : v_stretched [a, b] = .ex "BadPoint" := by
  show fnK (b_stretched [some (.pu a), some (.pu b)]) = _
  unfold b_stretched
  simp [chk1 ha, cpt1 hb]
theorem bad0_least_one : v_least_one [.tuple []] = .ex "BadNumber" := by
  have e : v__check_some [.tuple []] = .ex "BadNumber" := by
    show fnK (b__check_some [some (.pu (.tuple []))]) = _
    unfold b__check_some
    simp [isiK, tyName, kit_tt, eqD_int]
  show fnK (b_least_one [some (.pu (.tuple []))]) = _
  unfold b_least_one
  simp [e]
theorem bad0_greatest_one : v_greatest_one [.tuple []] = .ex "BadNumber" := by
  have e : v__check_some [.tuple []] = .ex "BadNumber" := by
    show fnK (b__check_some [some (.pu (.tuple []))]) = _
    unfold b__check_some
    simp [isiK, tyName, kit_tt, eqD_int]
  show fnK (b_greatest_one [some (.pu (.tuple []))]) = _
  unfold b_greatest_one
  simp [e]
theorem zero_over {a : D} (ha : v_is_number [a] = .ok (.bool true)) : v_over [a, .tuple [.int 0, .int 1]] = .ex "BadNumber" := by
  show fnK (b_over [some (.pu a), some (.pu (.tuple [.int 0, .int 1]))]) = _
  unfold b_over
  simp [chk2 ha num_zero, eqD_int]
theorem bad_ratio {a b : D} {x y : Bool} (ha : v_is_integer [a] = .ok (.bool x)) (hb : v_is_integer [b] = .ok (.bool y)) (h : (x && y) = false) : v_ratio [a, b] = .ex "BadNumber" := by
  show fnK (b_ratio [some (.pu a), some (.pu b)]) = _
  unfold b_ratio
  cases x
  · simp [ha]
  · cases y
    · simp [ha, hb]
    · cases h
theorem zero_ratio : v_ratio [.int 1, .int 0] = .ex "BadNumber" := by
  show fnK (b_ratio [some (.pu (.int 1)), some (.pu (.int 0))]) = _
  unfold b_ratio
  simp [isint_int, eqD_int]
end Mt

namespace Mt
open PySem PySem.Spec PyProof.Rows L2 TD Dn TL
section
variable {ρ : EnvS} {t t' : EnvS → R Bool} {f g : EnvS → R D} {o : EnvS → Out}
theorem or_ff (h1 : t ρ = .ok false) (h2 : t' ρ = .ok false) : orB t t' ρ = .ok false := by rw [orB_ap, h1, orK_f, h2]
theorem if_skip (h : t ρ = .ok false) : ifO t o nxO ρ = .nx ρ := by rw [ifO_ap, h, ifK_f, nxO_ap]
theorem ne_same {d : D} (h : okD d = true) (hp : PyData.eqv d d = true) : neD d d = .ok (.bool false) := by
  unfold neD; rw [h, hp]; rfl
theorem eq_same {d : D} (h : okD d = true) (hp : PyData.eqv d d = true) : eqD d d = .ok (.bool true) := by
  unfold eqD; rw [h, hp]; rfl
theorem as_ne {d : D} (hf : f ρ = .ok d) (hg : g ρ = .ok d) (h : okD d = true) (hp : PyData.eqv d d = true) : asF (bin2 neD f g) ρ = .ok false := by
  rw [asF_ap, bin2_ap, hf, hg, k2_ok, ne_same h hp, asB_ok]
theorem as_eq {d : D} (hf : f ρ = .ok d) (hg : g ρ = .ok d) (h : okD d = true) (hp : PyData.eqv d d = true) : bin2 eqD f g ρ = .ok (.bool true) := by
  rw [bin2_ap, hf, hg, k2_ok, eq_same h hp]
theorem sq_nx {ρ1 : EnvS} {o1 o2 : EnvS → Out} (h : o1 ρ = .nx ρ1) : sqO o1 o2 ρ = o2 ρ1 := by rw [sqO_ap, h, Out.nx_seq]
theorem lc_const {v : Nat} {gs : EnvS → R (List D)} {ds : List D} {x : D} (hg : gs ρ = .ok ds) (hl : lineOk ds.length = true) (h : ∀ d ∈ ds, f ((ρ.set v none).set v (some (.pu d))) = .ok x) : lstF (lcF gs (nmG v) yesB f [v]) ρ = .ok (.list (ds.map fun _ => x)) := by
  rw [lstF_ap, lcF_ap, hg, lcK_ok hl, show compO (nmG v) yesB f ds (wipeS ρ [v]) = .ok (ds.map fun _ => x) from compO_map (fun _ => x) ds fun d hd => ⟨_, rfl, h d hd⟩, lsK_ok]
end
theorem okn5 : okD (.list [.str "number", .str "number", .str "number", .str "number", .str "number"]) = true := by decide +kernel
theorem okn7 : okD (.list [.str "number", .str "number", .str "number", .str "number", .str "number", .str "number", .str "number"]) = true := by decide +kernel
theorem okn4 : okD (.list [.str "number", .str "number", .str "number", .str "number"]) = true := by decide +kernel
theorem okn2 : okD (.list [.str "number", .str "number"]) = true := by decide +kernel
theorem okp4 : okD (.list [.str "point", .str "point", .str "point", .str "point"]) = true := by decide +kernel
theorem esl : ∀ l : List Str, PyData.eqvAll (l.map .str) (l.map .str) = true
  | [] => by rw [List.map_nil, PyData.eqvAll]
  | s :: l => by rw [List.map_cons, PyData.eqvAll, eqv_str, esl l, decide_eq_true rfl]; rfl
theorem el (l : List Str) : PyData.eqv (.list (l.map .str)) (.list (l.map .str)) = true := by rw [PyData.eqv, esl]
theorem es (s : Str) : PyData.eqv (.str s) (.str s) = true := by rw [eqv_str, decide_eq_true rfl]
theorem okn : okD (.str "number") = true := by decide +kernel
theorem okp : okD (.str "point") = true := by decide +kernel
/-! ### one wrong value -/
theorem one_wrong {w : D} (hw : v_is_number [w] = .ok (.bool false)) (z1 z2 z3 : Option Sl) : ((sqO (ifO (orB (asF (callU 1 v_is_number (consA (varD 2) nilA))) (orB (asF (bin2 neD (lstF (lcF (seqF (tupD (consA (cD (.int 0)) (consA (cD (.int 1)) (consA (cD (.int 2)) (consA (cD (.int 3)) (consA (cD (.int 4)) (consA (cD (.int 6)) (consA (cD (.int 9)) nilA))))))))) (nmG 5) yesB (callU 3 v__law_error (consA (varD 5) (consA (varD 2) (consA (varD 0) nilA)))) [5])) (lstF (repL (newD (consA (cD (.str "number")) nilA)) (cD (.int 7)))))) (asF (bin2 neD (lstF (lcF (rng1F (cD (.int 5))) (nmG 5) yesB (callU 3 v__law_error (consA (varD 5) (consA (varD 0) (consA (varD 2) nilA)))) [5])) (lstF (repL (newD (consA (cD (.str "number")) nilA)) (cD (.int 5))))))))
  (rtO (cD (.bool false)))
  nxO)
  (sqO (ifO (orB (asF (bin2 neD (lstF (lcF (seqF (tupD (consA (cD (.int 7)) (consA (cD (.int 8)) nilA)))) (nmG 5) yesB (callU 3 v__law_error (consA (varD 5) (consA (tupD (consA (varD 0) (consA (varD 2) nilA))) (consA (cD .none) nilA)))) [5])) (lstF (repL (newD (consA (cD (.str "number")) nilA)) (cD (.int 2)))))) (asF (bin2 neD (callU 3 v__law_error (consA (cD (.int 15)) (consA (varD 2) (consA (varD 1) nilA)))) (cD (.str "number")))))
  (rtO (cD (.bool false)))
  nxO)
  (ifO (orB (asF (bin2 neD (lstF (lcF (seqF (tupD (consA (cD (.int 11)) (consA (cD (.int 12)) (consA (cD (.int 13)) (consA (cD (.int 14)) nilA)))))) (nmG 5) yesB (callU 3 v__law_error (consA (varD 5) (consA (tupD (consA (varD 2) (consA (varD 0) nilA))) (consA (varD 1) nilA)))) [5])) (lstF (repL (newD (consA (cD (.str "point")) nilA)) (cD (.int 4)))))) (asF (bin2 neD (lstF (slcL (lcF (seqF (tupD (consA (cD (.int 11)) (consA (cD (.int 12)) (consA (cD (.int 13)) (consA (cD (.int 14)) (consA (cD (.int 15)) nilA))))))) (nmG 5) yesB (callU 3 v__law_error (consA (varD 5) (consA (varD 1) (consA (tupD (consA (varD 0) (consA (varD 2) nilA))) nilA)))) [5]) noP (someP (cD (.int 4))))) (lstF (repL (newD (consA (cD (.str "point")) nilA)) (cD (.int 4)))))))
  (rtO (cD (.bool false)))
  nxO)))) [some (.pu good), some (.pu way), some (.pu w), z1, z2, z3] = .nx [some (.pu good), some (.pu way), some (.pu w), z1, z2, z3] := by
  have pw1 : v_is_point [.tuple [w, good]] = .ok (.bool false) := pt_two hw num_good
  have pw2 : v_is_point [.tuple [good, w]] = .ok (.bool false) := pt_two num_good hw
  have b1 : ∀ d ∈ [PyData.int 0, .int 1, .int 2, .int 3, .int 4, .int 6, .int 9], v__law_error [d, w, good] = .ok (.str "number") := by
    intro d hd
    simp only [List.mem_cons, List.not_mem_nil, or_false] at hd
    rcases hd with rfl | rfl | rfl | rfl | rfl | rfl | rfl
    · exact er0_number (bad_plus hw num_good rfl)
    · exact er1_number (bad_minus hw num_good rfl)
    · exact er2_number (bad_times hw num_good rfl)
    · exact er3_number (bad_over hw num_good rfl)
    · exact er4_number (bad_compare hw num_good rfl)
    · exact er6_number (bad_turned hw)
    · exact er9_number (bad_number_text hw)
  have b2 : ∀ d ∈ rngD 0 5, v__law_error [d, good, w] = .ok (.str "number") := by
    intro d hd
    have hd' : d ∈ [PyData.int 0, .int 1, .int 2, .int 3, .int 4] := hd
    simp only [List.mem_cons, List.not_mem_nil, or_false] at hd'
    rcases hd' with rfl | rfl | rfl | rfl | rfl
    · exact er0_number (bad_plus num_good hw rfl)
    · exact er1_number (bad_minus num_good hw rfl)
    · exact er2_number (bad_times num_good hw rfl)
    · exact er3_number (bad_over num_good hw rfl)
    · exact er4_number (bad_compare num_good hw rfl)
  have b3 : ∀ d ∈ [PyData.int 7, .int 8], v__law_error [d, .tuple [good, w], .none] = .ok (.str "number") := by
    intro d hd
    simp only [List.mem_cons, List.not_mem_nil, or_false] at hd
    rcases hd with rfl | rfl
    · exact er7_number (bad_least_one num_good hw rfl)
    · exact er8_number (bad_greatest_one num_good hw rfl)
  have b4 : v__law_error [.int 15, w, way] = .ok (.str "number") := er15_number (bad_stretched hw)
  have b5 : ∀ d ∈ [PyData.int 11, .int 12, .int 13, .int 14], v__law_error [d, .tuple [w, good], way] = .ok (.str "point") := by
    intro d hd
    simp only [List.mem_cons, List.not_mem_nil, or_false] at hd
    rcases hd with rfl | rfl | rfl | rfl
    · exact er11_point (bad_added pw1 pt_way rfl)
    · exact er12_point (bad_taken pw1 pt_way rfl)
    · exact er13_point (bad_dot pw1 pt_way rfl)
    · exact er14_point (bad_cross pw1 pt_way rfl)
  have b6 : ∀ d ∈ [PyData.int 11, .int 12, .int 13, .int 14], v__law_error [d, way, .tuple [good, w]] = .ok (.str "point") := by
    intro d hd
    simp only [List.mem_cons, List.not_mem_nil, or_false] at hd
    rcases hd with rfl | rfl | rfl | rfl
    · exact er11_point (bad_added pt_way pw2 rfl)
    · exact er12_point (bad_taken pt_way pw2 rfl)
    · exact er13_point (bad_dot pt_way pw2 rfl)
    · exact er14_point (bad_cross pt_way pw2 rfl)
  have b7 : v__law_error [.int 15, way, .tuple [good, w]] = .ok (.str "number") := er15_number (bad_stretched num_way)
  refine (sq_nx (if_skip (or_ff ?_ (or_ff ?_ ?_)))).trans ((sq_nx (if_skip (or_ff ?_ ?_))).trans (if_skip (or_ff ?_ ?_)))
  · show asB (v_is_number [w]) = _
    rw [hw]; rfl
  · exact as_ne (lc_const (ds := [PyData.int 0, .int 1, .int 2, .int 3, .int 4, .int 6, .int 9]) rfl rfl b1) rfl okn7 (el ["number", "number", "number", "number", "number", "number", "number"])
  · exact as_ne (lc_const (ds := rngD 0 5) rfl rfl b2) rfl okn5 (el ["number", "number", "number", "number", "number"])
  · exact as_ne (lc_const (ds := [PyData.int 7, .int 8]) rfl rfl b3) rfl okn2 (el ["number", "number"])
  · exact as_ne b4 rfl okn (es _)
  · exact as_ne (lc_const (ds := [PyData.int 11, .int 12, .int 13, .int 14]) rfl rfl b5) rfl okp4 (el ["point", "point", "point", "point"])
  · refine as_ne (d := .list [.str "point", .str "point", .str "point", .str "point"]) ?_ rfl okp4 (el ["point", "point", "point", "point"])
    have hc : lcF (seqF (tupD (consA (cD (.int 11)) (consA (cD (.int 12)) (consA (cD (.int 13)) (consA (cD (.int 14)) (consA (cD (.int 15)) nilA))))))) (nmG 5) yesB (callU 3 v__law_error (consA (varD 5) (consA (varD 1) (consA (tupD (consA (varD 0) (consA (varD 2) nilA))) nilA)))) [5] [some (.pu good), some (.pu way), some (.pu w), z1, z2, z3] = .ok [.str "point", .str "point", .str "point", .str "point", .str "number"] := by
      rw [lcF_ap, show seqF (tupD (consA (cD (.int 11)) (consA (cD (.int 12)) (consA (cD (.int 13)) (consA (cD (.int 14)) (consA (cD (.int 15)) nilA)))))) [some (.pu good), some (.pu way), some (.pu w), z1, z2, z3] = .ok [.int 11, .int 12, .int 13, .int 14, .int 15] from rfl, lcK_ok rfl]
      refine compO_cons rfl (b6 (.int 11) (by simp)) (compO_cons rfl (b6 (.int 12) (by simp)) (compO_cons rfl (b6 (.int 13) (by simp)) (compO_cons rfl (b6 (.int 14) (by simp)) (compO_cons rfl b7 rfl))))
    rw [lstF_ap, slcL_ap, hc]
    rfl
end Mt

namespace Mt
open PySem PySem.Spec PyProof.Rows L2 TD Dn TL
theorem lslash : decide (("/" : Str).length ≠ 0) = true := by decide +kernel
theorem spl_ok {s : Str} {ps : List Str} (h : Txt.split s "/" = ps) (hl : lineOk (s.length + 2) = true) {r : EnvS} : splF (varD 0) (cD (.str "/")) (some (.pu (.str s)) :: r) = .ok (ps.map .str) := by
  show (if decide (("/" : Str).length ≠ 0) && lineOk (s.length + 2) then R.ok ((Txt.split s "/").map PyData.str) else .no) = _
  rw [lslash, hl, h]; rfl
theorem read_none {s : Str} {ps : List Str} {vs : List D} (h : Txt.split s "/" = ps) (hl : lineOk (s.length + 2) = true) (hp : lineOk ps.length = true)
    (hv : ∀ ρ : EnvS, ρ.length = 5 → compO (nmG 4) yesB (callU 1 v_integer_of (consA (varD 4) nilA)) (ps.map .str) ρ = .ok vs)
    (hb : (orB (asF (bin2 gtD (callF lenK (consA (varD 1) nilA)) (cD (.int 2)))) (asF (bin2 inG (cD .none) (varD 2)))) [some (.pu (.str s)), some (.pu (.list (ps.map .str))), some (.pu (.list vs)), none, none] = .ok true) : v_read_number [.str s] = .ok .none := by
  show fnK (b_read_number [some (.pu (.str s)), none, none, none, none]) = _
  unfold b_read_number
  have el : lcF (seqF (varD 1)) (nmG 4) yesB (callU 1 v_integer_of (consA (varD 4) nilA)) [4] [some (.pu (.str s)), some (.pu (.list (ps.map .str))), none, none, none] = .ok vs := by
    rw [lcF_ap, show seqF (varD 1) [some (.pu (.str s)), some (.pu (.list (ps.map .str))), none, none, none] = .ok (ps.map .str) from rfl, lcK_ok (by rw [List.length_map]; exact hp)]
    exact hv _ rfl
  rw [sqO_ap, stO_ap, lstF_ap, spl_ok h hl, lsK_ok, stK_ok, Out.nx_seq]
  rw [sqO_ap, stO_ap, lstF_ap]
  show fnK ((stK 2 (lsK (lcF (seqF (varD 1)) (nmG 4) yesB (callU 1 v_integer_of (consA (varD 4) nilA)) [4] [some (.pu (.str s)), some (.pu (.list (ps.map .str))), none, none, none])) [some (.pu (.str s)), some (.pu (.list (ps.map .str))), none, none, none]).seq _) = _
  rw [el, lsK_ok, stK_ok, Out.nx_seq, sqO_ap, ifO_ap]
  show fnK ((ifK ((orB (asF (bin2 gtD (callF lenK (consA (varD 1) nilA)) (cD (.int 2)))) (asF (bin2 inG (cD .none) (varD 2)))) [some (.pu (.str s)), some (.pu (.list (ps.map .str))), some (.pu (.list vs)), none, none]) _ _ _).seq _) = _
  rw [hb]
  rfl
theorem read_pair {s : Str} {p1 p2 : Str} {a b : Int} (h : Txt.split s "/" = [p1, p2]) (hl : lineOk (s.length + 2) = true) (h1 : v_integer_of [.str p1] = .ok (.int a)) (h2 : v_integer_of [.str p2] = .ok (.int b))
    (hb : ((decide (1 ≤ b) && decide ((Int.gcd a b : Int) = 1)) && decide (1 < b)) = false) : v_read_number [.str s] = .ok .none := by
  show fnK (b_read_number [some (.pu (.str s)), none, none, none, none]) = _
  unfold b_read_number
  have el : lcF (seqF (varD 1)) (nmG 4) yesB (callU 1 v_integer_of (consA (varD 4) nilA)) [4] [some (.pu (.str s)), some (.pu (.list [.str p1, .str p2])), none, none, none] = .ok [.int a, .int b] := by
    rw [lcF_ap, show seqF (varD 1) [some (.pu (.str s)), some (.pu (.list [.str p1, .str p2])), none, none, none] = .ok [.str p1, .str p2] from rfl, lcK_ok rfl]
    exact compO_cons rfl (by simp [h1]) (compO_cons rfl (by simp [h2]) rfl)
  have hin : inG .none (.list [.int a, .int b]) = .ok (.bool false) := rfl
  rw [sqO_ap, stO_ap, lstF_ap, spl_ok h hl, lsK_ok, stK_ok, Out.nx_seq]
  rw [sqO_ap, stO_ap, lstF_ap]
  show fnK ((stK 2 (lsK (lcF (seqF (varD 1)) (nmG 4) yesB (callU 1 v_integer_of (consA (varD 4) nilA)) [4] [some (.pu (.str s)), some (.pu (.list [.str p1, .str p2])), none, none, none])) [some (.pu (.str s)), some (.pu (.list [.str p1, .str p2])), none, none, none]).seq _) = _
  rw [el, lsK_ok, stK_ok, Out.nx_seq]
  cases hx : (decide (1 ≤ b) && decide ((Int.gcd a b : Int) = 1))
  · simp [hin, eqD_int, isnum_pair, -Bool.and_eq_true, -Bool.and_eq_false_imp, hx]
  · rw [hx, Bool.true_and] at hb
    simp [hin, eqD_int, isnum_pair, -Bool.and_eq_true, -Bool.and_eq_false_imp, hx, -decide_eq_false_iff_not, hb]
theorem numof_none {d : D} (h : ifD (asF (isiD "str" (varD 0))) (callU 1 v_read_number (consA (varD 0) nilA)) (cD .none) [some (.pu d), none] = .ok .none) : v_number_of [d] = .ex "BadText" := by
  show fnK (b_number_of [some (.pu d), none]) = _
  unfold b_number_of
  rw [sqO_ap, stO_ap, h, stK_ok]
  rfl
theorem numof_str {s : Str} (h : v_read_number [.str s] = .ok .none) : v_number_of [.str s] = .ex "BadText" := numof_none (by
  rw [ifD_ap, asF_ap, isiD_ap', varD_zero, R.ok_bind, show isiK "str" (.str s) = .ok (.bool true) by simp only [isiK, tyName, kit_ss], asB_ok, ifDK_t]
  show cuK 1 v_read_number (.ok [.str s]) = _
  rw [cuK_1, h])
theorem numof_non : v_number_of [.none] = .ex "BadText" := numof_none (by
  rw [ifD_ap, asF_ap, isiD_ap', varD_zero, R.ok_bind, show isiK "str" .none = .ok (.bool false) by simp only [isiK, tyName, kit_ns], asB_ok, ifDK_f]; rfl)
theorem numof_int (a : Int) : v_number_of [.int a] = .ex "BadText" := numof_none (by
  rw [ifD_ap, asF_ap, isiD_ap', varD_zero, R.ok_bind, show isiK "str" (.int a) = .ok (.bool false) by simp only [isiK, tyName, kit_is], asB_ok, ifDK_f]; rfl)

theorem io0 : v_integer_of [.str ""] = .ok .none := by with_unfolding_all rfl
theorem io1 : v_integer_of [.str "1"] = .ok (.int 1) := by with_unfolding_all rfl
theorem io2 : v_integer_of [.str "2"] = .ok (.int 2) := by with_unfolding_all rfl
theorem io3 : v_integer_of [.str "4"] = .ok (.int 4) := by with_unfolding_all rfl
theorem io4 : v_integer_of [.str "-2"] = .ok (.int (-2)) := by with_unfolding_all rfl
theorem io5 : v_integer_of [.str "01"] = .ok .none := by with_unfolding_all rfl
theorem io6 : v_integer_of [.str "-0"] = .ok .none := by with_unfolding_all rfl
theorem io7 : v_integer_of [.str "0"] = .ok (.int 0) := by with_unfolding_all rfl
theorem io8 : v_integer_of [.str "3"] = .ok (.int 3) := by with_unfolding_all rfl
theorem io9 : v_integer_of [.str " 1"] = .ok .none := by with_unfolding_all rfl
theorem io10 : v_integer_of [.str "+1"] = .ok .none := by with_unfolding_all rfl
theorem io11 : v_integer_of [.str "1.5"] = .ok .none := by with_unfolding_all rfl
theorem io12 : v_integer_of [.str "a"] = .ok .none := by with_unfolding_all rfl
theorem io13 : v_integer_of [.str "-"] = .ok .none := by with_unfolding_all rfl
theorem c1 (ρ : EnvS) (hρ : ρ.length = 5) {p : Str} {v : D} (h : v_integer_of [.str p] = .ok v) : callU 1 v_integer_of (consA (varD 4) nilA) (ρ.set 4 (some (.pu (.str p)))) = .ok v := by
  rcases ρ with _ | ⟨a, _ | ⟨b, _ | ⟨c, _ | ⟨d, _ | ⟨e, _ | ⟨f, r⟩⟩⟩⟩⟩⟩ <;> first | (simp at hρ; done) | skip
  show cuK 1 v_integer_of (.ok [.str p]) = _
  rw [cuK_1, h]
theorem tx0 : v_number_of [.str ""] = .ex "BadText" := numof_str (read_none (ps := [""]) (vs := [.none]) (by decide +kernel) (by decide +kernel) rfl (fun ρ hρ => (compO_cons (ρ1 := ρ.set 4 (some (.pu (.str "")))) rfl (c1 ρ hρ io0) rfl)) (by rfl))
theorem tx1 : v_number_of [.str "1/1"] = .ex "BadText" := numof_str (read_pair (p1 := "1") (p2 := "1") (by decide +kernel) (by decide +kernel) io1 io1 (by decide))
theorem tx2 : v_number_of [.str "2/4"] = .ex "BadText" := numof_str (read_pair (p1 := "2") (p2 := "4") (by decide +kernel) (by decide +kernel) io2 io3 (by decide))
theorem tx3 : v_number_of [.str "1/-2"] = .ex "BadText" := numof_str (read_pair (p1 := "1") (p2 := "-2") (by decide +kernel) (by decide +kernel) io1 io4 (by decide))
theorem tx4 : v_number_of [.str "01"] = .ex "BadText" := numof_str (read_none (ps := ["01"]) (vs := [.none]) (by decide +kernel) (by decide +kernel) rfl (fun ρ hρ => (compO_cons (ρ1 := ρ.set 4 (some (.pu (.str "01")))) rfl (c1 ρ hρ io5) rfl)) (by rfl))
theorem tx5 : v_number_of [.str "-0"] = .ex "BadText" := numof_str (read_none (ps := ["-0"]) (vs := [.none]) (by decide +kernel) (by decide +kernel) rfl (fun ρ hρ => (compO_cons (ρ1 := ρ.set 4 (some (.pu (.str "-0")))) rfl (c1 ρ hρ io6) rfl)) (by rfl))
theorem tx6 : v_number_of [.str "1/0"] = .ex "BadText" := numof_str (read_pair (p1 := "1") (p2 := "0") (by decide +kernel) (by decide +kernel) io1 io7 (by decide))
theorem tx7 : v_number_of [.str "1/2/3"] = .ex "BadText" := numof_str (read_none (ps := ["1", "2", "3"]) (vs := [.int 1, .int 2, .int 3]) (by decide +kernel) (by decide +kernel) rfl (fun ρ hρ => (compO_cons (ρ1 := ρ.set 4 (some (.pu (.str "1")))) rfl (c1 ρ hρ io1) (compO_cons (ρ1 := ρ.set 4 (some (.pu (.str "2")))) rfl (c1 ρ hρ io2) (compO_cons (ρ1 := ρ.set 4 (some (.pu (.str "3")))) rfl (c1 ρ hρ io8) rfl)))) (by rfl))
theorem tx8 : v_number_of [.str " 1"] = .ex "BadText" := numof_str (read_none (ps := [" 1"]) (vs := [.none]) (by decide +kernel) (by decide +kernel) rfl (fun ρ hρ => (compO_cons (ρ1 := ρ.set 4 (some (.pu (.str " 1")))) rfl (c1 ρ hρ io9) rfl)) (by rfl))
theorem tx9 : v_number_of [.str "+1"] = .ex "BadText" := numof_str (read_none (ps := ["+1"]) (vs := [.none]) (by decide +kernel) (by decide +kernel) rfl (fun ρ hρ => (compO_cons (ρ1 := ρ.set 4 (some (.pu (.str "+1")))) rfl (c1 ρ hρ io10) rfl)) (by rfl))
theorem tx10 : v_number_of [.str "1.5"] = .ex "BadText" := numof_str (read_none (ps := ["1.5"]) (vs := [.none]) (by decide +kernel) (by decide +kernel) rfl (fun ρ hρ => (compO_cons (ρ1 := ρ.set 4 (some (.pu (.str "1.5")))) rfl (c1 ρ hρ io11) rfl)) (by rfl))
theorem tx11 : v_number_of [.str "a"] = .ex "BadText" := numof_str (read_none (ps := ["a"]) (vs := [.none]) (by decide +kernel) (by decide +kernel) rfl (fun ρ hρ => (compO_cons (ρ1 := ρ.set 4 (some (.pu (.str "a")))) rfl (c1 ρ hρ io12) rfl)) (by rfl))
theorem tx12 : v_number_of [.str "0/2"] = .ex "BadText" := numof_str (read_pair (p1 := "0") (p2 := "2") (by decide +kernel) (by decide +kernel) io7 io2 (by decide))
theorem tx13 : v_number_of [.str "-"] = .ex "BadText" := numof_str (read_none (ps := ["-"]) (vs := [.none]) (by decide +kernel) (by decide +kernel) rfl (fun ρ hρ => (compO_cons (ρ1 := ρ.set 4 (some (.pu (.str "-")))) rfl (c1 ρ hρ io13) rfl)) (by rfl))
end Mt

namespace Mt
open PySem PySem.Spec PyProof.Rows L2 TD Dn TL
theorem wrong_loop : ∀ (ds : List D) (z0 z1 z2 z3 : Option Sl), (∀ d ∈ ds, v_is_number [d] = .ok (.bool false)) → ∃ z, forO (nmG 2) ((sqO (ifO (orB (asF (callU 1 v_is_number (consA (varD 2) nilA))) (orB (asF (bin2 neD (lstF (lcF (seqF (tupD (consA (cD (.int 0)) (consA (cD (.int 1)) (consA (cD (.int 2)) (consA (cD (.int 3)) (consA (cD (.int 4)) (consA (cD (.int 6)) (consA (cD (.int 9)) nilA))))))))) (nmG 5) yesB (callU 3 v__law_error (consA (varD 5) (consA (varD 2) (consA (varD 0) nilA)))) [5])) (lstF (repL (newD (consA (cD (.str "number")) nilA)) (cD (.int 7)))))) (asF (bin2 neD (lstF (lcF (rng1F (cD (.int 5))) (nmG 5) yesB (callU 3 v__law_error (consA (varD 5) (consA (varD 0) (consA (varD 2) nilA)))) [5])) (lstF (repL (newD (consA (cD (.str "number")) nilA)) (cD (.int 5))))))))
  (rtO (cD (.bool false)))
  nxO)
  (sqO (ifO (orB (asF (bin2 neD (lstF (lcF (seqF (tupD (consA (cD (.int 7)) (consA (cD (.int 8)) nilA)))) (nmG 5) yesB (callU 3 v__law_error (consA (varD 5) (consA (tupD (consA (varD 0) (consA (varD 2) nilA))) (consA (cD .none) nilA)))) [5])) (lstF (repL (newD (consA (cD (.str "number")) nilA)) (cD (.int 2)))))) (asF (bin2 neD (callU 3 v__law_error (consA (cD (.int 15)) (consA (varD 2) (consA (varD 1) nilA)))) (cD (.str "number")))))
  (rtO (cD (.bool false)))
  nxO)
  (ifO (orB (asF (bin2 neD (lstF (lcF (seqF (tupD (consA (cD (.int 11)) (consA (cD (.int 12)) (consA (cD (.int 13)) (consA (cD (.int 14)) nilA)))))) (nmG 5) yesB (callU 3 v__law_error (consA (varD 5) (consA (tupD (consA (varD 2) (consA (varD 0) nilA))) (consA (varD 1) nilA)))) [5])) (lstF (repL (newD (consA (cD (.str "point")) nilA)) (cD (.int 4)))))) (asF (bin2 neD (lstF (slcL (lcF (seqF (tupD (consA (cD (.int 11)) (consA (cD (.int 12)) (consA (cD (.int 13)) (consA (cD (.int 14)) (consA (cD (.int 15)) nilA))))))) (nmG 5) yesB (callU 3 v__law_error (consA (varD 5) (consA (varD 1) (consA (tupD (consA (varD 0) (consA (varD 2) nilA))) nilA)))) [5]) noP (someP (cD (.int 4))))) (lstF (repL (newD (consA (cD (.str "point")) nilA)) (cD (.int 4)))))))
  (rtO (cD (.bool false)))
  nxO)))) ds [some (.pu good), some (.pu way), z0, z1, z2, z3] = .nx [some (.pu good), some (.pu way), z, z1, z2, z3] := by
  intro ds
  induction ds with
  | nil => exact fun z0 z1 z2 z3 _ => ⟨z0, rfl⟩
  | cons d ds ih =>
    intro z0 z1 z2 z3 h
    obtain ⟨z, e⟩ := ih (some (.pu d)) z1 z2 z3 fun x hx => h x (List.mem_cons_of_mem _ hx)
    refine ⟨z, ?_⟩
    rw [forO_cons (ρ1 := [some (.pu good), some (.pu way), some (.pu d), z1, z2, z3]) rfl (one_wrong (h d List.mem_cons_self) z1 z2 z3)]
    exact e
def wrongs : List D := [.none, .int 5, .tuple [.int 1], .tuple [.int 2, .int 4], .tuple [.int 1, .int 0], .tuple [.int 1, .int (-2)], .tuple [.bool true, .int 1], .tuple [.int 1, .bool true], .list [.int 1, .int 2], .tuple [.str "1", .int 2], .tuple [.int 0, .int 2]]
theorem wrongs_all : ∀ d ∈ wrongs, v_is_number [d] = .ok (.bool false) := by
  intro d hd
  unfold wrongs at hd
  simp only [List.mem_cons, List.not_mem_nil, or_false] at hd
  rcases hd with rfl | rfl | rfl | rfl | rfl | rfl | rfl | rfl | rfl | rfl | rfl
  · exact num_false rfl rfl
  · exact num_false rfl rfl
  · exact num_one _
  · rw [isnum_pair]; rfl
  · rw [isnum_pair]; rfl
  · rw [isnum_pair]; rfl
  · exact num_two (isint_bool true) (isint_int 1) rfl
  · exact num_two (isint_int 1) (isint_bool true) rfl
  · exact num_false rfl rfl
  · exact num_two (isint_str "1") (isint_int 2) rfl
  · rw [isnum_pair]; rfl
theorem okt16 : okD (.list [.str "text", .str "text", .str "text", .str "text", .str "text", .str "text", .str "text", .str "text", .str "text", .str "text", .str "text", .str "text", .str "text", .str "text", .str "text", .str "text"]) = true := by decide +kernel
theorem refuses_eq : v__law_refuses [] = .ok (.bool true) := by
  show fnK (b__law_refuses [none, none, none, none, none, none]) = _
  unfold b__law_refuses
  obtain ⟨z, ez⟩ := wrong_loop wrongs none none none none wrongs_all
  refine (congrArg fnK (sq_nx (ρ1 := [some (.pu good), some (.pu way), none, none, none, none]) rfl)).trans ?_
  refine (congrArg fnK (sq_nx (ρ1 := [some (.pu good), some (.pu way), z, none, none, none]) (by
    rw [loO_ap, show seqF (tupD (consA (cD .none) (consA (cD (.int 5)) (consA (tupD (consA (cD (.int 1)) nilA)) (consA (tupD (consA (cD (.int 2)) (consA (cD (.int 4)) nilA))) (consA (tupD (consA (cD (.int 1)) (consA (cD (.int 0)) nilA))) (consA (tupD (consA (cD (.int 1)) (consA (un1 negD (cD (.int 2))) nilA))) (consA (tupD (consA (cD (.bool true)) (consA (cD (.int 1)) nilA))) (consA (tupD (consA (cD (.int 1)) (consA (cD (.bool true)) nilA))) (consA (lstF (newD (consA (cD (.int 1)) (consA (cD (.int 2)) nilA)))) (consA (tupD (consA (cD (.str "1")) (consA (cD (.int 2)) nilA))) (consA (tupD (consA (cD (.int 0)) (consA (cD (.int 2)) nilA))) nilA)))))))))))) [some (.pu good), some (.pu way), none, none, none, none] = .ok wrongs from rfl, loK_ok]
    exact ez))).trans ?_
  have c1 : v__law_error [.int 15, good, .tuple [good]] = .ok (.str "point") := er15_point (badp_stretched num_good (pt_one good))
  have c2 : ∀ d ∈ [PyData.int 7, .int 8], v__law_error [d, .tuple [], .none] = .ok (.str "number") := by
    intro d hd
    simp only [List.mem_cons, List.not_mem_nil, or_false] at hd
    rcases hd with rfl | rfl
    · exact er7_number bad0_least_one
    · exact er8_number bad0_greatest_one
  have c3 : v__law_error [.int 3, good, .tuple [.int 0, .int 1]] = .ok (.str "number") := er3_number (zero_over num_good)
  refine (congrArg fnK (sq_nx (ρ1 := [some (.pu good), some (.pu way), z, none, none, none]) (if_skip (or_ff (as_ne c1 rfl okp (es _)) (or_ff (as_ne (lc_const (ds := [PyData.int 7, .int 8]) rfl rfl c2) rfl okn2 (el ["number", "number"])) (as_ne c3 rfl okn (es _))))))).trans ?_
  have c4 : lcF (newD (consA (tupD (consA (cD (.int 1)) (consA (cD (.int 0)) nilA))) (consA (tupD (consA (cD (.bool true)) (consA (cD (.int 2)) nilA))) (consA (tupD (consA (cD (.int 1)) (consA (cD .none) nilA))) (consA (tupD (consA (cD (.str "1")) (consA (cD (.int 2)) nilA))) nilA))))) (tupG 2 (consG (nmG 3) (consG (nmG 4) nilG))) yesB (callU 3 v__law_error (consA (cD (.int 5)) (consA (varD 3) (consA (varD 4) nilA)))) [3, 4] [some (.pu good), some (.pu way), z, none, none, none] = .ok [.str "number", .str "number", .str "number", .str "number"] := by
    rw [lcF_ap, show newD (consA (tupD (consA (cD (.int 1)) (consA (cD (.int 0)) nilA))) (consA (tupD (consA (cD (.bool true)) (consA (cD (.int 2)) nilA))) (consA (tupD (consA (cD (.int 1)) (consA (cD .none) nilA))) (consA (tupD (consA (cD (.str "1")) (consA (cD (.int 2)) nilA))) nilA)))) [some (.pu good), some (.pu way), z, none, none, none] = .ok [.tuple [.int 1, .int 0], .tuple [.bool true, .int 2], .tuple [.int 1, .none], .tuple [.str "1", .int 2]] from rfl, lcK_ok rfl]
    exact compO_cons rfl (er5_number zero_ratio) (compO_cons rfl (er5_number (bad_ratio (isint_bool true) (isint_int 2) rfl)) (compO_cons rfl (er5_number (bad_ratio (isint_int 1) isint_none rfl)) (compO_cons rfl (er5_number (bad_ratio (isint_str "1") (isint_int 2) rfl)) rfl)))
  refine (congrArg fnK (sq_nx (ρ1 := [some (.pu good), some (.pu way), z, none, none, none]) (if_skip (as_ne (d := .list [.str "number", .str "number", .str "number", .str "number"]) (by rw [lstF_ap, c4, lsK_ok]) rfl okn4 (el ["number", "number", "number", "number"]))))).trans ?_
  have c5 : ∀ d ∈ [PyData.none, .int 5, .str "", .str "1/1", .str "2/4", .str "1/-2", .str "01", .str "-0", .str "1/0", .str "1/2/3", .str " 1", .str "+1", .str "1.5", .str "a", .str "0/2", .str "-"], v__law_error [.int 10, d, .none] = .ok (.str "text") := by
    intro d hd
    simp only [List.mem_cons, List.not_mem_nil, or_false] at hd
    rcases hd with rfl | rfl | rfl | rfl | rfl | rfl | rfl | rfl | rfl | rfl | rfl | rfl | rfl | rfl | rfl | rfl
    · exact er10_text numof_non
    · exact er10_text (numof_int 5)
    · exact er10_text tx0
    · exact er10_text tx1
    · exact er10_text tx2
    · exact er10_text tx3
    · exact er10_text tx4
    · exact er10_text tx5
    · exact er10_text tx6
    · exact er10_text tx7
    · exact er10_text tx8
    · exact er10_text tx9
    · exact er10_text tx10
    · exact er10_text tx11
    · exact er10_text tx12
    · exact er10_text tx13
  rw [rtO_ap, as_eq (lc_const (ds := [PyData.none, .int 5, .str "", .str "1/1", .str "2/4", .str "1/-2", .str "01", .str "-0", .str "1/0", .str "1/2/3", .str " 1", .str "+1", .str "1.5", .str "a", .str "0/2", .str "-"]) rfl rfl c5) rfl okt16 (el ["text", "text", "text", "text", "text", "text", "text", "text", "text", "text", "text", "text", "text", "text", "text", "text"]), rtK_ok, fnK_rt]
end Mt

namespace Mt
open PySem PySem.Spec PyProof.Rows L2 TD Dn TL
noncomputable def B1 : EnvS → Out := (sqO (parO 4 5 (consA (bin2 subD (bin2 modD (callF intG (consA (bin2 ixD (varD 1) (varD 3)) nilA)) (cD (.int 121))) (cD (.int 60))) (consA (bin2 subD (bin2 modD (callF intG (consA (bin2 ixD (varD 1) (bin2 addD (cD (.int 20)) (varD 3))) nilA)) (cD (.int 24))) (cD (.int 12))) nilA)))
  (sqO (ifO (asF (bin2 eqD (varD 5) (cD (.int 0))))
  (stO 5 (bin2 addD (bin2 powD (cD (.int 10)) (cD (.int 20))) (varD 3)))
  nxO)
  (sqO (stO 6 (callU 2 v_ratio (consA (varD 4) (consA (varD 5) nilA))))
  (sqO (ifO (orB (notB (asF (callU 3 v__law_is (consA (varD 6) (consA (bin2 mulD (varD 4) (ifD (asF (bin2 gtD (varD 5) (cD (.int 0)))) (cD (.int 1)) (un1 negD (cD (.int 1))))) (consA (callF absK (consA (varD 5) nilA)) nilA)))))) (orB (asF (bin2 neD (callU 2 v_ratio (consA (bin2 mulD (varD 4) (cD (.int 7))) (consA (bin2 mulD (varD 5) (cD (.int 7))) nilA))) (varD 6))) (asF (bin2 neD (callU 1 v_turned (consA (varD 6) nilA)) (callU 2 v_ratio (consA (bin2 subD (cD (.int 0)) (varD 4)) (consA (varD 5) nilA)))))))
  (rtO (cD (.bool false)))
  nxO)
  (sqO (stO 7 (bin2 addD (callF strK (consA (bin2 ixD (varD 6) (cD (.int 0))) nilA)) (ifD (asF (bin2 gtD (bin2 ixD (varD 6) (cD (.int 1))) (cD (.int 1)))) (bin2 addD (cD (.str "/")) (callF strK (consA (bin2 ixD (varD 6) (cD (.int 1))) nilA))) (cD (.str "")))))
  (sqO (ifO (orB (asF (bin2 neD (callU 1 v_number_text (consA (varD 6) nilA)) (varD 7))) (asF (bin2 neD (callU 1 v_number_of (consA (varD 7) nilA)) (varD 6))))
  (rtO (cD (.bool false)))
  nxO)
  (appO 2 (varD 6))))))))
noncomputable def B2 : EnvS → Out := (sqO (ifO (orB (notB (asF (callU 3 v__law_is (consA (callU 2 v_plus (consA (varD 6) (consA (varD 8) nilA))) (consA (bin2 addD (bin2 mulD (bin2 ixD (varD 6) (cD (.int 0))) (bin2 ixD (varD 8) (cD (.int 1)))) (bin2 mulD (bin2 ixD (varD 8) (cD (.int 0))) (bin2 ixD (varD 6) (cD (.int 1))))) (consA (bin2 mulD (bin2 ixD (varD 6) (cD (.int 1))) (bin2 ixD (varD 8) (cD (.int 1)))) nilA)))))) (notB (asF (callU 3 v__law_is (consA (callU 2 v_minus (consA (varD 6) (consA (varD 8) nilA))) (consA (bin2 subD (bin2 mulD (bin2 ixD (varD 6) (cD (.int 0))) (bin2 ixD (varD 8) (cD (.int 1)))) (bin2 mulD (bin2 ixD (varD 8) (cD (.int 0))) (bin2 ixD (varD 6) (cD (.int 1))))) (consA (bin2 mulD (bin2 ixD (varD 6) (cD (.int 1))) (bin2 ixD (varD 8) (cD (.int 1)))) nilA)))))))
  (rtO (cD (.bool false)))
  nxO)
  (sqO (ifO (notB (asF (callU 3 v__law_is (consA (callU 2 v_times (consA (varD 6) (consA (varD 8) nilA))) (consA (bin2 mulD (bin2 ixD (varD 6) (cD (.int 0))) (bin2 ixD (varD 8) (cD (.int 0)))) (consA (bin2 mulD (bin2 ixD (varD 6) (cD (.int 1))) (bin2 ixD (varD 8) (cD (.int 1)))) nilA))))))
  (rtO (cD (.bool false)))
  nxO)
  (sqO (ifO (andB (asF (bin2 neD (bin2 ixD (varD 8) (cD (.int 0))) (cD (.int 0)))) (asF (bin2 neD (callU 2 v_times (consA (callU 2 v_over (consA (varD 6) (consA (varD 8) nilA))) (consA (varD 8) nilA))) (varD 6))))
  (rtO (cD (.bool false)))
  nxO)
  (sqO (stO 9 (bin2 subD (bin2 mulD (bin2 ixD (varD 6) (cD (.int 0))) (bin2 ixD (varD 8) (cD (.int 1)))) (bin2 mulD (bin2 ixD (varD 8) (cD (.int 0))) (bin2 ixD (varD 6) (cD (.int 1))))))
  (ifO (orB (asF (bin2 neD (callU 2 v_compare (consA (varD 6) (consA (varD 8) nilA))) (ifD (asF (bin2 eqD (varD 9) (cD (.int 0)))) (cD (.int 0)) (ifD (asF (bin2 gtD (varD 9) (cD (.int 0)))) (cD (.int 1)) (un1 negD (cD (.int 1))))))) (asF (bin2 neD (bin2 eqD (varD 9) (cD (.int 0))) (bin2 eqD (varD 6) (varD 8)))))
  (rtO (cD (.bool false)))
  nxO)))))
noncomputable def B3 : EnvS → Out := (sqO (par3O 6 8 12 (consA (tupD (consA (ixL (ownD 2) (varD 3)) (consA (ixL (ownD 2) (bin2 addD (varD 3) (cD (.int 1)))) nilA))) (consA (tupD (consA (ixL (ownD 2) (bin2 addD (varD 3) (cD (.int 3)))) (consA (ixL (ownD 2) (bin2 addD (varD 3) (cD (.int 5)))) nilA))) (consA (ixL (ownD 2) (bin2 addD (varD 3) (cD (.int 2)))) nilA))))
  (sqO (ifO (orB (asF (bin2 neD (callU 2 v_added (consA (varD 6) (consA (varD 8) nilA))) (tupD (consA (callU 2 v_plus (consA (bin2 ixD (varD 6) (cD (.int 0))) (consA (bin2 ixD (varD 8) (cD (.int 0))) nilA))) (consA (callU 2 v_plus (consA (bin2 ixD (varD 6) (cD (.int 1))) (consA (bin2 ixD (varD 8) (cD (.int 1))) nilA))) nilA))))) (asF (bin2 neD (callU 2 v_taken (consA (varD 6) (consA (varD 8) nilA))) (tupD (consA (callU 2 v_minus (consA (bin2 ixD (varD 6) (cD (.int 0))) (consA (bin2 ixD (varD 8) (cD (.int 0))) nilA))) (consA (callU 2 v_minus (consA (bin2 ixD (varD 6) (cD (.int 1))) (consA (bin2 ixD (varD 8) (cD (.int 1))) nilA))) nilA))))))
  (rtO (cD (.bool false)))
  nxO)
  (sqO (ifO (orB (asF (bin2 neD (callU 2 v_stretched (consA (varD 12) (consA (varD 6) nilA))) (tupD (consA (callU 2 v_times (consA (varD 12) (consA (bin2 ixD (varD 6) (cD (.int 0))) nilA))) (consA (callU 2 v_times (consA (varD 12) (consA (bin2 ixD (varD 6) (cD (.int 1))) nilA))) nilA))))) (asF (bin2 neD (callU 2 v_dot (consA (varD 6) (consA (varD 8) nilA))) (callU 2 v_plus (consA (callU 2 v_times (consA (bin2 ixD (varD 6) (cD (.int 0))) (consA (bin2 ixD (varD 8) (cD (.int 0))) nilA))) (consA (callU 2 v_times (consA (bin2 ixD (varD 6) (cD (.int 1))) (consA (bin2 ixD (varD 8) (cD (.int 1))) nilA))) nilA))))))
  (rtO (cD (.bool false)))
  nxO)
  (ifO (orB (asF (bin2 neD (callU 2 v_cross (consA (varD 6) (consA (varD 8) nilA))) (callU 2 v_minus (consA (callU 2 v_times (consA (bin2 ixD (varD 6) (cD (.int 0))) (consA (bin2 ixD (varD 8) (cD (.int 1))) nilA))) (consA (callU 2 v_times (consA (bin2 ixD (varD 6) (cD (.int 1))) (consA (bin2 ixD (varD 8) (cD (.int 0))) nilA))) nilA))))) (asF (bin2 neD (callU 2 v_cross (consA (varD 6) (consA (varD 6) nilA))) (tupD (consA (cD (.int 0)) (consA (cD (.int 1)) nilA))))))
  (rtO (cD (.bool false)))
  nxO))))
end Mt

namespace Mt
open PySem PySem.Spec PyProof.Rows L2 TD Dn TL
section
variable {ρ : EnvS} {f : EnvS → R D} {t : EnvS → R Bool} {o : EnvS → Out}
theorem st_nx {i : Nat} {d : D} (h : f ρ = .ok d) : stO i f ρ = .nx (ρ.set i (some (.pu d))) := by rw [stO_ap, h, stK_ok]
theorem not_f (h : t ρ = .ok true) : notB t ρ = .ok false := by rw [notB_ap, h, notK_ok]; rfl
theorem as_t (h : f ρ = .ok (.bool true)) : asF f ρ = .ok true := by rw [asF_ap, h, asB_ok]
end
theorem assoc_s (x y z : Str) : x ++ (y ++ z) = x ++ y ++ z := ext_tl (by rw [tl_append, tl_append, tl_append, tl_append, List.append_assoc])
theorem app_empty (x : Str) : x ++ ("" : Str) = x := ext_tl (by rw [tl_append, show tl ("" : Str) = [] by decide +kernel, List.append_nil])
theorem mul7 {a b : Int} : Rat.divInt (a * 7) (b * 7) = Rat.divInt a b := Rat.divInt_mul_right (by decide)
theorem pw20 : powD (.int 10) (.int 20) = .ok (.int 100000000000000000000) := by rfl
theorem lt67 {b : Int} (h : b.natAbs ≤ 100000000000000000012) : b.natAbs < 2 ^ 67 := by
  have : (2:Nat) ^ 67 = 147573952589676412928 := by decide
  omega
theorem lt6 {b : Int} (h : b.natAbs ≤ 60) : b.natAbs < 2 ^ 6 := by
  have : (2:Nat) ^ 6 = 64 := by decide
  omega
theorem B1_step {S z4 z5 z6 z7 z8 z9 z10 z11 z12 : Option Sl} {ds : List Int} (hl : ds.length = 120) (hg : Gd ds) {qs : List Rat} (hq : qs.length ≤ 1000) {k : Nat} (hk : k < 12) :
    ∃ (q : Rat) (w4 w5 w6 w7 : Option Sl), Bd 70 q ∧ B1 [S, some (.pu (.list (ds.map .int))), some (.ow (qs.map N)), some (.pu (.int (0 + (k : Nat)))), z4, z5, z6, z7, z8, z9, z10, z11, z12] = .nx [S, some (.pu (.list (ds.map .int))), some (.ow ((qs ++ [q]).map N)), some (.pu (.int (0 + (k : Nat)))), w4, w5, w6, w7, z8, z9, z10, z11, z12] := by
  rw [Int.zero_add]
  have e1 : (ds.map PyData.int)[k]? = some (.int (ds[k]'(by omega))) := by rw [List.getElem?_map, List.getElem?_eq_getElem (by omega)]; rfl
  have e2 : (ds.map PyData.int)[20 + k]? = some (.int (ds[20 + k]'(by omega))) := by rw [List.getElem?_map, List.getElem?_eq_getElem (by omega)]; rfl
  generalize hx : ds[k]'(by omega) = x at e1
  generalize hy : ds[20 + k]'(by omega) = y at e2
  have i1 : ixD (.list (ds.map .int)) (.int (k : Nat)) = .ok (.int x) := ixD_list_nat e1
  have i2 : ixD (.list (ds.map .int)) (.int (20 + (k : Nat))) = .ok (.int y) := by
    rw [show (20 : Int) + (k : Nat) = ((20 + k : Nat) : Int) by omega]; exact ixD_list_nat e2
  have ha0 := Int.emod_nonneg x (show (121 : Int) ≠ 0 by omega)
  have ha1 := Int.emod_lt_of_pos x (show (0 : Int) < 121 by omega)
  have hb0 := Int.emod_nonneg y (show (24 : Int) ≠ 0 by omega)
  have hb1 := Int.emod_lt_of_pos y (show (0 : Int) < 24 by omega)
  generalize ha : x % 121 - 60 = a
  generalize hb' : y % 24 - 12 = b'
  have haS : a.natAbs < 2 ^ 6 := lt6 (by omega)
  have hpar : parO 4 5 (consA (bin2 subD (bin2 modD (callF intG (consA (bin2 ixD (varD 1) (varD 3)) nilA)) (cD (.int 121))) (cD (.int 60))) (consA (bin2 subD (bin2 modD (callF intG (consA (bin2 ixD (varD 1) (bin2 addD (cD (.int 20)) (varD 3))) nilA)) (cD (.int 24))) (cD (.int 12))) nilA))
      [S, some (.pu (.list (ds.map .int))), some (.ow (qs.map N)), some (.pu (.int (k : Nat))), z4, z5, z6, z7, z8, z9, z10, z11, z12] = .nx [S, some (.pu (.list (ds.map .int))), some (.ow (qs.map N)), some (.pu (.int (k : Nat))), some (.pu (.int a)), some (.pu (.int b')), z6, z7, z8, z9, z10, z11, z12] := by
    simp only [parO_ap, consA_ap, bin2_ap, callF_ap, varD_succ, varD_zero, cD_ap, nilA_ap, k2_ok, addD_int, i1, i2, cnK_ok, R.ok_bind, intG_int, modK 121 (by omega), modK 24 (by omega), subD_int, ha, hb', parK_ok, List.set]
  obtain ⟨b, hbne, hbs, hbO⟩ : ∃ b : Int, b ≠ 0 ∧ b.natAbs < 2 ^ 67 ∧ ifO (asF (bin2 eqD (varD 5) (cD (.int 0)))) (stO 5 (bin2 addD (bin2 powD (cD (.int 10)) (cD (.int 20))) (varD 3))) nxO
      [S, some (.pu (.list (ds.map .int))), some (.ow (qs.map N)), some (.pu (.int (k : Nat))), some (.pu (.int a)), some (.pu (.int b')), z6, z7, z8, z9, z10, z11, z12] = .nx [S, some (.pu (.list (ds.map .int))), some (.ow (qs.map N)), some (.pu (.int (k : Nat))), some (.pu (.int a)), some (.pu (.int b)), z6, z7, z8, z9, z10, z11, z12] := by
    by_cases h0 : b' = 0
    · refine ⟨100000000000000000000 + (k : Nat), by omega, lt67 (by omega), ?_⟩
      simp only [ifO_ap, asF_ap, bin2_ap, varD_succ, varD_zero, cD_ap, k2_ok, eqD_int, decide_eq_true h0, asB_ok, ifK_t, stO_ap, pw20, addD_int, stK_ok, List.set]
    · refine ⟨b', h0, lt67 (by omega), ?_⟩
      simp only [ifO_ap, asF_ap, bin2_ap, varD_succ, varD_zero, cD_ap, k2_ok, eqD_int, decide_eq_false h0, asB_ok, ifK_f, nxO_ap]
  have hb8 : b.natAbs < 2 ^ 8000 := lt_up hbs (by omega)
  generalize hqd : Rat.divInt a b = q
  have hbd : Bd 70 q := by
    have h := divInt_bd (a := a) hbne
    rw [hqd] at h
    exact ⟨Nat.lt_of_le_of_lt h.1 (lt_up haS (by omega)), Nat.lt_of_le_of_lt h.2 (lt_up hbs (by omega))⟩
  have hrat : v_ratio [.int a, .int b] = .ok (N q) := by rw [ratio_eq hbne hb8, hqd]
  have hcr : q.num * b = a * q.den := by rw [← hqd]; exact divInt_cross hbne
  have hb80 : Bd 80 q := hbd.up (by omega)
  -- the test of the number
  obtain ⟨s, hs1, hs2, hsI⟩ : ∃ s : Int, (s = 1 ∨ s = -1) ∧ (if b < 0 then -b else b) = b * s ∧ ifD (asF (bin2 gtD (varD 5) (cD (.int 0)))) (cD (.int 1)) (un1 negD (cD (.int 1))) [S, some (.pu (.list (ds.map .int))), some (.ow (qs.map N)), some (.pu (.int (k : Nat))), some (.pu (.int a)), some (.pu (.int b)), some (.pu (N q)), z7, z8, z9, z10, z11, z12] = .ok (.int s) := by
    by_cases hp : 0 < b
    · refine ⟨1, .inl rfl, by rw [if_neg (by omega)]; omega, ?_⟩
      simp only [ifD_ap, asF_ap, bin2_ap, varD_succ, varD_zero, cD_ap, k2_ok, gtD_int, decide_eq_true hp, asB_ok, ifDK_t]
    · refine ⟨-1, .inr rfl, by rw [if_pos (by omega)]; omega, ?_⟩
      simp only [ifD_ap, asF_ap, bin2_ap, varD_succ, varD_zero, cD_ap, k2_ok, gtD_int, decide_eq_false hp, asB_ok, ifDK_f, un1_ap, R.ok_bind, negD_int]
  have hsS : s.natAbs < 2 ^ 1 := by
    have : (2:Nat) ^ 1 = 2 := by decide
    omega
  have habs : (b * s).natAbs < 2 ^ 68 := mul_lt hbs hsS
  have haS' : (a * s).natAbs < 2 ^ 68 := lt_up (mul_lt haS hsS) (by omega)
  have hlaw : v__law_is [N q, .int (a * s), .int (b * s)] = .ok (.bool true) := law_is (k := 70) (l := 68) rfl (by
    rw [← Int.mul_assoc, hcr, Int.mul_right_comm]) hbd habs haS' (by omega)
  have m1 : mulD (.int a) (.int s) = .ok (.int (a * s)) := mulD_ok haS hsS (by omega)
  have s7 : (7 : Int).natAbs < 2 ^ 3 := by decide
  have m7a : mulD (.int a) (.int 7) = .ok (.int (a * 7)) := mulD_ok haS s7 (by omega)
  have m7b : mulD (.int b) (.int 7) = .ok (.int (b * 7)) := mulD_ok hbs s7 (by omega)
  have r7 : v_ratio [.int (a * 7), .int (b * 7)] = .ok (N q) := by
    rw [ratio_eq (by omega) (lt_up (mul_lt hbs s7) (by omega)), mul7, hqd]
  have rneg : v_ratio [.int (0 - a), .int b] = .ok (N (-q)) := by
    rw [ratio_eq hbne hb8, Int.zero_sub, ← Rat.neg_divInt, hqd]
  have heN : ∀ r : Rat, PyData.eqv (N r) (N r) = true := fun r => by rw [eqv_N]; exact decide_eq_true rfl
  -- the text
  have hden : ((q.den : Int)).natAbs < 2 ^ 80 := dB hb80
  have l1 := lineNum hb80 hb80.1
  have l2 := lineNum hb80 hden
  have htext : bin2 addD (callF strK (consA (bin2 ixD (varD 6) (cD (.int 0))) nilA)) (ifD (asF (bin2 gtD (bin2 ixD (varD 6) (cD (.int 1))) (cD (.int 1)))) (bin2 addD (cD (.str "/")) (callF strK (consA (bin2 ixD (varD 6) (cD (.int 1))) nilA))) (cD (.str "")))
      [S, some (.pu (.list (ds.map .int))), some (.ow (qs.map N)), some (.pu (.int (k : Nat))), some (.pu (.int a)), some (.pu (.int b)), some (.pu (N q)), z7, z8, z9, z10, z11, z12] = .ok (.str (textQ q)) := by
    by_cases h1 : (1 : Int) < q.den
    · have hne : ¬ q.den = 1 := by omega
      have a1 : addD (.str "/") (.str (numT q.den)) = .ok (.str ("/" ++ numT q.den)) := addS hb80 (by rw [len_slash hb80]; omega)
      have a2 : addD (.str (numT q.num)) (.str ("/" ++ numT q.den)) = .ok (.str (numT q.num ++ ("/" ++ numT q.den))) := addS hb80 (by rw [len_app hb80, len_slash hb80]; omega)
      simp only [bin2_ap, callF_ap, consA_ap, varD_succ, varD_zero, cD_ap, k2_ok, ixN0, ixN1, nilA_ap, cnK_ok, R.ok_bind, strK_num hb80.1, strK_num hden, ifD_ap, asF_ap, gtD_int, decide_eq_true h1, asB_ok, ifDK_t, a1, a2]
      rw [assoc_s, textQ, if_neg hne]
    · have he : q.den = 1 := by have := q.den_pos; omega
      have a2 : addD (.str (numT q.num)) (.str "") = .ok (.str (numT q.num ++ "")) := addS hb80 (by rw [show ("" : Str).length = 0 by decide +kernel]; omega)
      simp only [bin2_ap, callF_ap, consA_ap, varD_succ, varD_zero, cD_ap, k2_ok, ixN0, ixN1, nilA_ap, cnK_ok, R.ok_bind, strK_num hb80.1, ifD_ap, asF_ap, gtD_int, decide_eq_false h1, asB_ok, ifDK_f, a2]
      rw [app_empty, textQ, if_pos he]
  refine ⟨q, some (.pu (.int a)), some (.pu (.int b)), some (.pu (N q)), some (.pu (.str (textQ q))), hbd, ?_⟩
  unfold B1
  refine (sq_nx hpar).trans ((sq_nx hbO).trans ?_)
  refine (sq_nx (st_nx (d := N q) ?_)).trans ?_
  · simp only [callU_ap, consA_ap, varD_succ, varD_zero, nilA_ap, cnK_ok, cuK_2, hrat]
  simp only [List.set]
  refine (sq_nx (if_skip (or_ff (not_f (as_t ?_)) (or_ff (as_ne (d := N q) ?_ ?_ (okN q) (heN q)) (as_ne (d := N (-q)) ?_ ?_ (okN _) (heN _)))))).trans ?_
  · rw [callU_ap, consA_ap, consA_ap, consA_ap, bin2_ap, hsI]
    simp only [varD_succ, varD_zero, nilA_ap, k2_ok, m1, callF_ap, consA_ap, cnK_ok, R.ok_bind, absK_int, hs2, cuK_3, hlaw]
  · simp only [callU_ap, consA_ap, bin2_ap, varD_succ, varD_zero, cD_ap, nilA_ap, k2_ok, m7a, m7b, cnK_ok, cuK_2, r7]
  · rfl
  · simp only [callU_ap, consA_ap, varD_succ, varD_zero, nilA_ap, cnK_ok, cuK_1, turned_eq]
  · simp only [callU_ap, consA_ap, bin2_ap, varD_succ, varD_zero, cD_ap, nilA_ap, k2_ok, subD_int, cnK_ok, cuK_2, rneg]
  refine (sq_nx (st_nx htext)).trans ?_
  simp only [List.set]
  refine (sq_nx (if_skip (or_ff (as_ne (d := .str (textQ q)) ?_ ?_ (ok_textQ hb80) (es _)) (as_ne (d := N q) ?_ ?_ (okN q) (heN q))))).trans ?_
  · simp only [callU_ap, consA_ap, varD_succ, varD_zero, nilA_ap, cnK_ok, cuK_1, number_text_eq hb80]
  · rfl
  · simp only [callU_ap, consA_ap, varD_succ, varD_zero, nilA_ap, cnK_ok, cuK_1, number_of_eq hb80]
  · rfl
  rw [appO_ap]
  show appK 2 (some (some (.ow (qs.map N)))) (.ok (N q)) _ = _
  rw [appK_ok (by unfold lineOk; rw [List.length_map]; exact decide_eq_true (by omega)), List.map_append]
  rfl
end Mt

namespace Mt
open PySem PySem.Spec PyProof.Rows L2 TD Dn TL
theorem heN (r : Rat) : PyData.eqv (N r) (N r) = true := by rw [eqv_N]; exact decide_eq_true rfl
theorem B1_loop {S z8 z9 z10 z11 z12 : Option Sl} {ds : List Int} (hl : ds.length = 120) (hg : Gd ds) : ∀ (ks : List Nat) (qs : List Rat) (z3 z4 z5 z6 z7 : Option Sl), (∀ k ∈ ks, k < 12) → (∀ q ∈ qs, Bd 70 q) → qs.length + ks.length ≤ 1000 →
    ∃ (qs' : List Rat) (w3 w4 w5 w6 w7 : Option Sl), (∀ q ∈ qs', Bd 70 q) ∧ qs'.length = qs.length + ks.length ∧ forO (nmG 3) B1 (ks.map fun i => .int (0 + (i : Nat))) [S, some (.pu (.list (ds.map .int))), some (.ow (qs.map N)), z3, z4, z5, z6, z7, z8, z9, z10, z11, z12] = .nx [S, some (.pu (.list (ds.map .int))), some (.ow (qs'.map N)), w3, w4, w5, w6, w7, z8, z9, z10, z11, z12] := by
  intro ks
  induction ks with
  | nil => exact fun qs z3 z4 z5 z6 z7 _ hq _ => ⟨qs, z3, z4, z5, z6, z7, hq, rfl, rfl⟩
  | cons k ks ih =>
    intro qs z3 z4 z5 z6 z7 hk hq hlen
    rw [List.length_cons] at hlen
    obtain ⟨q, w4, w5, w6, w7, hb, e⟩ := B1_step (S := S) (z4 := z4) (z5 := z5) (z6 := z6) (z7 := z7) (z8 := z8) (z9 := z9) (z10 := z10) (z11 := z11) (z12 := z12) hl hg (qs := qs) (by omega) (hk k List.mem_cons_self)
    obtain ⟨qs', v3, v4, v5, v6, v7, hb', hl', e'⟩ := ih (qs ++ [q]) (some (.pu (.int (0 + (k : Nat))))) w4 w5 w6 w7 (fun j hj => hk j (List.mem_cons_of_mem _ hj)) (fun r hr => by
      rcases List.mem_append.mp hr with hr | hr
      · exact hq r hr
      · rw [List.mem_singleton.mp hr]; exact hb) (by rw [List.length_append, List.length_singleton]; omega)
    refine ⟨qs', v3, v4, v5, v6, v7, hb', by rw [hl', List.length_append, List.length_singleton, List.length_cons]; omega, ?_⟩
    rw [List.map_cons, forO_cons (ρ1 := [S, some (.pu (.list (ds.map .int))), some (.ow (qs.map N)), some (.pu (.int (0 + (k : Nat)))), z4, z5, z6, z7, z8, z9, z10, z11, z12]) rfl e]
    exact e'
theorem eqv_bool (b : Bool) : PyData.eqv (.bool b) (.bool b) = true := by rw [PyData.eqv]; exact beq_self_eq_true b
theorem eqv_i (a : Int) : PyData.eqv (.int a) (.int a) = true := by rw [eqv_int]; exact decide_eq_true rfl
theorem eqD_N (p q : Rat) : eqD (N p) (N q) = .ok (.bool (decide (p = q))) := by unfold eqD; rw [okN, okN, eqv_N]; rfl
theorem B2_step {S R0 O2 z3 z4 z5 z7 z9 z10 z11 z12 : Option Sl} {p q : Rat} (hp : Bd 70 p) (hq : Bd 70 q) :
    B2 [S, R0, O2, z3, z4, z5, some (.pu (N p)), z7, some (.pu (N q)), z9, z10, z11, z12] = .nx [S, R0, O2, z3, z4, z5, some (.pu (N p)), z7, some (.pu (N q)), some (.pu (.int (ordI p q))), z10, z11, z12] := by
  have s1 := mul_lt hp.1 (dB hq)
  have s2 := mul_lt hq.1 (dB hp)
  have s3 := mul_lt (dB hp) (dB hq)
  have s4 := mul_lt hp.1 hq.1
  have m1 : mulD (.int p.num) (.int q.den) = .ok (.int (p.num * q.den)) := mulD_ok hp.1 (dB hq) (by omega)
  have m2 : mulD (.int q.num) (.int p.den) = .ok (.int (q.num * p.den)) := mulD_ok hq.1 (dB hp) (by omega)
  have m3 : mulD (.int p.den) (.int q.den) = .ok (.int (p.den * q.den)) := mulD_ok (dB hp) (dB hq) (by omega)
  have m4 : mulD (.int p.num) (.int q.num) = .ok (.int (p.num * q.num)) := mulD_ok hp.1 hq.1 (by omega)
  have ePlus := plus_eq hp hq (by omega)
  have eMinus := minus_eq hp hq (by omega)
  have eTimes := times_eq hp hq (by omega)
  have eComp := compare_eq hp hq (by omega)
  have L1 : v__law_is [N (p + q), .int (p.num * q.den + q.num * p.den), .int (p.den * q.den)] = .ok (.bool true) := law_is (k := 141) (l := 141) rfl (by
    have h := divInt_cross (a := p.num * q.den + q.num * p.den) (dd_ne p q)
    rw [← add_div] at h; exact h) (add_bd hp hq) (lt_up s3 (by omega)) (add_lt s1 s2) (by omega)
  have L2 : v__law_is [N (p - q), .int (p.num * q.den - q.num * p.den), .int (p.den * q.den)] = .ok (.bool true) := law_is (k := 141) (l := 141) rfl (by
    have h := divInt_cross (a := p.num * q.den - q.num * p.den) (dd_ne p q)
    rw [← sub_div] at h; exact h) (sub_bd hp hq) (lt_up s3 (by omega)) (sub_lt s1 s2) (by omega)
  have L3 : v__law_is [N (p * q), .int (p.num * q.num), .int (p.den * q.den)] = .ok (.bool true) := law_is (k := 140) (l := 140) rfl (by
    have h := divInt_cross (a := p.num * q.num) (dd_ne p q)
    rw [← mul_div] at h; exact h) (mul_bd hp hq) (lt_up s3 (by omega)) s4 (by omega)
  unfold B2
  refine (sq_nx (if_skip (or_ff (not_f (as_t ?_)) (not_f (as_t ?_))))).trans ?_
  · simp only [callU_ap, consA_ap, bin2_ap, varD_succ, varD_zero, cD_ap, nilA_ap, k2_ok, ixN0, ixN1, cnK_ok, cuK_2, ePlus, m1, m2, m3, addD_int, cuK_3, L1]
  · simp only [callU_ap, consA_ap, bin2_ap, varD_succ, varD_zero, cD_ap, nilA_ap, k2_ok, ixN0, ixN1, cnK_ok, cuK_2, eMinus, m1, m2, m3, subD_int, cuK_3, L2]
  refine (sq_nx (if_skip (not_f (as_t ?_)))).trans ?_
  · simp only [callU_ap, consA_ap, bin2_ap, varD_succ, varD_zero, cD_ap, nilA_ap, k2_ok, ixN0, ixN1, cnK_ok, cuK_2, eTimes, m3, m4, cuK_3, L3]
  refine (sq_nx (if_skip ?_)).trans ?_
  · rw [andB_ap, asF_ap, bin2_ap, bin2_ap]
    simp only [varD_succ, varD_zero, cD_ap, k2_ok, ixN0, neD_int, asB_ok]
    by_cases h0 : q = 0
    · have : q.num = 0 := Rat.num_eq_zero.mpr h0
      rw [decide_eq_true this]
      rfl
    · rw [decide_eq_false (num_ne h0)]
      show andK (.ok true) _ _ = _
      rw [andK_t]
      refine as_ne (d := N p) ?_ rfl (okN p) (heN p)
      have eO := over_eq hp hq (by omega) h0
      have eT := times_eq (div_bd hp hq h0) hq (by omega)
      rw [Rat.div_mul_cancel h0] at eT
      simp only [callU_ap, consA_ap, varD_succ, varD_zero, nilA_ap, cnK_ok, cuK_2, eO, eT]
  refine (sq_nx (st_nx (d := .int (ordI p q)) ?_)).trans ?_
  · simp only [bin2_ap, varD_succ, varD_zero, cD_ap, k2_ok, ixN0, ixN1, m1, m2, subD_int]
    rfl
  simp only [List.set]
  refine if_skip (or_ff (as_ne (d := .int (sgI (ordI p q))) ?_ ?_ (okI _) (eqv_i _)) (as_ne (d := .bool (decide (p = q))) ?_ ?_ rfl (eqv_bool _)))
  · simp only [callU_ap, consA_ap, varD_succ, varD_zero, nilA_ap, cnK_ok, cuK_2, eComp]
  · simp only [ifD_ap, asF_ap, bin2_ap, varD_succ, varD_zero, cD_ap, k2_ok, eqD_int, asB_ok]
    unfold sgI
    by_cases h0 : ordI p q = 0
    · rw [decide_eq_true h0, ifDK_t, cD_ap, if_pos h0]
    · rw [decide_eq_false h0, ifDK_f, if_neg h0]
      simp only [ifD_ap, asF_ap, bin2_ap, varD_succ, varD_zero, cD_ap, k2_ok, gtD_int, asB_ok]
      by_cases h1 : 0 < ordI p q
      · rw [decide_eq_true h1, ifDK_t, cD_ap, if_pos h1]
      · rw [decide_eq_false h1, ifDK_f, if_neg h1]
        rfl
  · simp only [bin2_ap, varD_succ, varD_zero, cD_ap, k2_ok, eqD_int]
    congr 2
    rw [decide_eq_decide]
    exact ord_zero p q
  · simp only [bin2_ap, varD_succ, varD_zero, k2_ok, eqD_N]
theorem B2_inner {S R0 O2 z3 z4 z5 z7 z10 z11 z12 : Option Sl} {p : Rat} (hp : Bd 70 p) : ∀ (qs : List Rat) (z8 z9 : Option Sl), (∀ q ∈ qs, Bd 70 q) →
    ∃ w8 w9 : Option Sl, forO (nmG 8) B2 (qs.map N) [S, R0, O2, z3, z4, z5, some (.pu (N p)), z7, z8, z9, z10, z11, z12] = .nx [S, R0, O2, z3, z4, z5, some (.pu (N p)), z7, w8, w9, z10, z11, z12] := by
  intro qs
  induction qs with
  | nil => exact fun z8 z9 _ => ⟨z8, z9, rfl⟩
  | cons q qs ih =>
    intro z8 z9 h
    obtain ⟨w8, w9, e⟩ := ih (some (.pu (N q))) (some (.pu (.int (ordI p q)))) fun r hr => h r (List.mem_cons_of_mem _ hr)
    refine ⟨w8, w9, ?_⟩
    rw [List.map_cons, forO_cons (ρ1 := [S, R0, O2, z3, z4, z5, some (.pu (N p)), z7, some (.pu (N q)), z9, z10, z11, z12]) rfl (B2_step hp (h q List.mem_cons_self))]
    exact e
theorem B2_loop {S R0 z3 z4 z5 z7 z10 z11 z12 : Option Sl} {rows : List Rat} (hr : ∀ q ∈ rows, Bd 70 q) : ∀ (ps : List Rat) (z6 z8 z9 : Option Sl), (∀ q ∈ ps, Bd 70 q) →
    ∃ w6 w8 w9 : Option Sl, forO (nmG 6) (loO (seqF (lstF (slcL (ownD 2) noP (someP (cD (.int 8)))))) (nmG 8) B2) (ps.map N) [S, R0, some (.ow (rows.map N)), z3, z4, z5, z6, z7, z8, z9, z10, z11, z12] = .nx [S, R0, some (.ow (rows.map N)), z3, z4, z5, w6, z7, w8, w9, z10, z11, z12] := by
  intro ps
  induction ps with
  | nil => exact fun z6 z8 z9 _ => ⟨z6, z8, z9, rfl⟩
  | cons p ps ih =>
    intro z6 z8 z9 h
    obtain ⟨v8, v9, e⟩ := B2_inner (S := S) (R0 := R0) (O2 := some (.ow (rows.map N))) (z3 := z3) (z4 := z4) (z5 := z5) (z7 := z7) (z10 := z10) (z11 := z11) (z12 := z12) (h p List.mem_cons_self) (rows.take 8) z8 z9 fun r hr' => hr r (List.mem_of_mem_take hr')
    obtain ⟨w6, w8, w9, e'⟩ := ih (some (.pu (N p))) v8 v9 fun r hr => h r (List.mem_cons_of_mem _ hr)
    refine ⟨w6, w8, w9, ?_⟩
    rw [List.map_cons, forO_cons (ρ1 := [S, R0, some (.ow (rows.map N)), z3, z4, z5, some (.pu (N p)), z7, z8, z9, z10, z11, z12]) (ρ2 := [S, R0, some (.ow (rows.map N)), z3, z4, z5, some (.pu (N p)), z7, v8, v9, z10, z11, z12]) rfl]
    · exact e'
    · rw [loO_ap, seqF_ap, lstF_ap, slcL_ap, noP_ap, someP_ap, cD_ap, smK_ok]
      show loK (sqK (lsK (slLK (.ok (rows.map N)) (.ok none) (.ok (some 8))))) _ _ _ = _
      rw [slLK_ok, lsK_ok, sqK_l, loK_ok, show (8 : Int) = ((8 : Nat) : Int) from rfl, cut_take, ← List.map_take]
      exact e
end Mt

namespace Mt
open PySem PySem.Spec PyProof.Rows L2 TD Dn TL
theorem okP (a b : Rat) : okD (P a b) = true := rfl
theorem eqv_P (a b : Rat) : PyData.eqv (P a b) (P a b) = true := by
  unfold P
  rw [PyData.eqv, PyData.eqvAll, PyData.eqvAll, PyData.eqvAll, heN, heN]; rfl
theorem nat_add (k j : Nat) : addD (.int (k : Nat)) (.int (j : Nat)) = .ok (.int ((k + j : Nat) : Int)) := by
  rw [addD_int, Int.natCast_add]
theorem B3_step {S R0 z4 z5 z6 z7 z8 z9 z10 z11 z12 : Option Sl} {qs : List Rat} (hq : ∀ q ∈ qs, Bd 70 q) (hl : qs.length = 12) {k : Nat} (hk : k < 6) :
    ∃ w6 w8 w12 : Option Sl, B3 [S, R0, some (.ow (qs.map N)), some (.pu (.int (0 + (k : Nat)))), z4, z5, z6, z7, z8, z9, z10, z11, z12] = .nx [S, R0, some (.ow (qs.map N)), some (.pu (.int (0 + (k : Nat)))), z4, z5, w6, z7, w8, z9, z10, z11, w12] := by
  rw [Int.zero_add]
  have get : ∀ j, j < 12 → ∃ q : Rat, Bd 70 q ∧ ixD (.list (qs.map N)) (.int (j : Nat)) = .ok (N q) := fun j hj =>
    ⟨qs[j]'(by omega), hq _ (List.getElem_mem _), ixD_list_nat (by rw [List.getElem?_map, List.getElem?_eq_getElem (by omega)]; rfl)⟩
  obtain ⟨a, ha, e0⟩ := get k (by omega)
  obtain ⟨b, hb, e1⟩ := get (k + 1) (by omega)
  obtain ⟨c, hc, e3⟩ := get (k + 3) (by omega)
  obtain ⟨d, hd, e5⟩ := get (k + 5) (by omega)
  obtain ⟨g, hg, e2⟩ := get (k + 2) (by omega)
  have n1 : addD (.int (k : Nat)) (.int 1) = .ok (.int ((k + 1 : Nat) : Int)) := nat_add k 1
  have n2 : addD (.int (k : Nat)) (.int 2) = .ok (.int ((k + 2 : Nat) : Int)) := nat_add k 2
  have n3 : addD (.int (k : Nat)) (.int 3) = .ok (.int ((k + 3 : Nat) : Int)) := nat_add k 3
  have n5 : addD (.int (k : Nat)) (.int 5) = .ok (.int ((k + 5 : Nat) : Int)) := nat_add k 5
  refine ⟨some (.pu (P a b)), some (.pu (P c d)), some (.pu (N g)), ?_⟩
  unfold B3
  refine (sq_nx (ρ1 := [S, R0, some (.ow (qs.map N)), some (.pu (.int (k : Nat))), z4, z5, some (.pu (P a b)), z7, some (.pu (P c d)), z9, z10, z11, some (.pu (N g))]) ?_).trans ?_
  · simp only [par3O_ap, consA_ap, tupD_ap, ixL_ap, ownD_succ, ownD_zero, varD_succ, varD_zero, bin2_ap, cD_ap, nilA_ap, k2_ok, n1, n2, n3, n5, ixLK_ok, e0, e1, e2, e3, e5, cnK_ok, tuK_2, par3K_ok, List.set]
    rfl
  refine (sq_nx (if_skip (or_ff (as_ne (d := P (a + c) (b + d)) ?_ ?_ (okP _ _) (eqv_P _ _)) (as_ne (d := P (a - c) (b - d)) ?_ ?_ (okP _ _) (eqv_P _ _))))).trans ?_
  · simp only [callU_ap, consA_ap, varD_succ, varD_zero, nilA_ap, cnK_ok, cuK_2, added_eq ha hb hc hd (by omega)]
  · simp only [tupD_ap, callU_ap, consA_ap, varD_succ, varD_zero, bin2_ap, cD_ap, k2_ok, ixP0, ixP1, nilA_ap, cnK_ok, cuK_2, plus_eq ha hc (by omega), plus_eq hb hd (by omega), tuK_2]
    rfl
  · simp only [callU_ap, consA_ap, varD_succ, varD_zero, nilA_ap, cnK_ok, cuK_2, taken_eq ha hb hc hd (by omega)]
  · simp only [tupD_ap, callU_ap, consA_ap, varD_succ, varD_zero, bin2_ap, cD_ap, k2_ok, ixP0, ixP1, nilA_ap, cnK_ok, cuK_2, minus_eq ha hc (by omega), minus_eq hb hd (by omega), tuK_2]
    rfl
  refine (sq_nx (if_skip (or_ff (as_ne (d := P (g * a) (g * b)) ?_ ?_ (okP _ _) (eqv_P _ _)) (as_ne (d := N (a * c + b * d)) ?_ ?_ (okN _) (heN _))))).trans ?_
  · simp only [callU_ap, consA_ap, varD_succ, varD_zero, nilA_ap, cnK_ok, cuK_2, stretched_eq ha hb hg (by omega)]
  · simp only [tupD_ap, callU_ap, consA_ap, varD_succ, varD_zero, bin2_ap, cD_ap, k2_ok, ixP0, ixP1, nilA_ap, cnK_ok, cuK_2, times_eq hg ha (by omega), times_eq hg hb (by omega), tuK_2]
    rfl
  · simp only [callU_ap, consA_ap, varD_succ, varD_zero, nilA_ap, cnK_ok, cuK_2, dot_eq ha hb hc hd (by omega)]
  · simp only [callU_ap, consA_ap, varD_succ, varD_zero, bin2_ap, cD_ap, k2_ok, ixP0, ixP1, nilA_ap, cnK_ok, cuK_2, times_eq ha hc (by omega), times_eq hb hd (by omega), plus_eq (mul_bd ha hc) (mul_bd hb hd) (by omega)]
  refine if_skip (or_ff (as_ne (d := N (a * d - b * c)) ?_ ?_ (okN _) (heN _)) (as_ne (d := N 0) ?_ ?_ (okN _) (heN _)))
  · simp only [callU_ap, consA_ap, varD_succ, varD_zero, nilA_ap, cnK_ok, cuK_2, cross_eq ha hb hc hd (by omega)]
  · simp only [callU_ap, consA_ap, varD_succ, varD_zero, bin2_ap, cD_ap, k2_ok, ixP0, ixP1, nilA_ap, cnK_ok, cuK_2, times_eq ha hd (by omega), times_eq hb hc (by omega), minus_eq (mul_bd ha hd) (mul_bd hb hc) (by omega)]
  · have h := cross_eq ha hb ha hb (by omega)
    rw [Rat.mul_comm b a, Rat.sub_self] at h
    simp only [callU_ap, consA_ap, varD_succ, varD_zero, nilA_ap, cnK_ok, cuK_2, h]
  · rfl
theorem B3_loop {S R0 z4 z5 z7 z9 z10 z11 : Option Sl} {qs : List Rat} (hq : ∀ q ∈ qs, Bd 70 q) (hl : qs.length = 12) : ∀ (ks : List Nat) (z3 z6 z8 z12 : Option Sl), (∀ k ∈ ks, k < 6) →
    ∃ w3 w6 w8 w12 : Option Sl, forO (nmG 3) B3 (ks.map fun i => .int (0 + (i : Nat))) [S, R0, some (.ow (qs.map N)), z3, z4, z5, z6, z7, z8, z9, z10, z11, z12] = .nx [S, R0, some (.ow (qs.map N)), w3, z4, z5, w6, z7, w8, z9, z10, z11, w12] := by
  intro ks
  induction ks with
  | nil => exact fun z3 z6 z8 z12 _ => ⟨z3, z6, z8, z12, rfl⟩
  | cons k ks ih =>
    intro z3 z6 z8 z12 h
    obtain ⟨v6, v8, v12, e⟩ := B3_step (S := S) (R0 := R0) (z4 := z4) (z5 := z5) (z6 := z6) (z7 := z7) (z8 := z8) (z9 := z9) (z10 := z10) (z11 := z11) (z12 := z12) hq hl (h k List.mem_cons_self)
    obtain ⟨w3, w6, w8, w12, e'⟩ := ih (some (.pu (.int (0 + (k : Nat))))) v6 v8 v12 fun j hj => h j (List.mem_cons_of_mem _ hj)
    refine ⟨w3, w6, w8, w12, ?_⟩
    rw [List.map_cons, forO_cons (ρ1 := [S, R0, some (.ow (qs.map N)), some (.pu (.int (0 + (k : Nat)))), z4, z5, z6, z7, z8, z9, z10, z11, z12]) rfl e]
    exact e'
theorem lay_all (qs : List Rat) : PyData.canLayAll0 (qs.map N) = true ∧ PyData.depthAll (qs.map N) ≤ 1 := by
  induction qs with
  | nil => exact ⟨by rw [List.map_nil, PyData.canLayAll0], by rw [List.map_nil, PyData.depthAll]; omega⟩
  | cons q qs ih =>
    have hc : PyData.canLay0 (N q) = true := rfl
    have hd : PyData.depth (N q) = 1 := rfl
    refine ⟨by rw [List.map_cons, PyData.canLayAll0, hc, ih.1]; rfl, by rw [List.map_cons, PyData.depthAll, hd]; omega⟩
theorem ok_rows (qs : List Rat) : okD (.list (qs.map N)) = true := by
  have h := lay_all qs
  show (PyData.canLay0 (.list (qs.map N)) && decide (PyData.depth (.list (qs.map N)) ≤ 64)) = true
  rw [PyData.canLay0, PyData.depth, h.1, decide_eq_true (by omega)]
  rfl
theorem in_rows {qs : List Rat} {m : Rat} (h : m ∈ qs) : inK true (.ok (N m)) (.ok (qs.map N)) = .ok (.bool false) := by
  have e : ((qs.map N).any fun z => PyData.eqv z (N m)) = true := by
    rw [List.any_eq_true]
    exact ⟨N m, List.mem_map.mpr ⟨m, h, rfl⟩, heN m⟩
  show (if okD (N m) && okD (.list (qs.map N)) then R.ok (PyData.bool (if true then !((qs.map N).any fun z => PyData.eqv z (N m)) else (qs.map N).any fun z => PyData.eqv z (N m))) else .no) = _
  rw [okN, ok_rows, e]
  rfl
theorem anyK_falses (ds : List D) : anyK (ds.map fun _ => .bool false) = .ok (.bool false) := by
  unfold anyK
  have h : boolsOf (ds.map fun _ => .bool false) = some (ds.map fun _ => false) := by
    induction ds with
    | nil => rfl
    | cons d ds ih => simp [boolsOf, ih]
  rw [h]
  simp
theorem law_true (ns : List Int) (h : ns.length ≤ 63) : v_law [scrD ns] = .ok (.bool true) := by
  obtain ⟨ds, hl, hg, hdr⟩ := draws_eq ns 120 (by omega)
  obtain ⟨qs, w3, w4, w5, w6, w7, hq, hql, e1⟩ := B1_loop (S := some (.pu (scrD ns))) (z8 := none) (z9 := none) (z10 := none) (z11 := none) (z12 := none) hl hg (List.range 12) [] none none none none none (fun k hk => List.mem_range.mp hk) (fun q hq => absurd hq List.not_mem_nil) (by simp)
  have hq12 : qs.length = 12 := by rw [hql, List.length_range]; rfl
  obtain ⟨x6, x8, x9, e2⟩ := B2_loop (S := some (.pu (scrD ns))) (R0 := some (.pu (.list (ds.map .int)))) (z3 := w3) (z4 := w4) (z5 := w5) (z7 := w7) (z10 := none) (z11 := none) (z12 := none) hq qs w6 none none hq
  obtain ⟨q0, qr, hqe⟩ : ∃ q0 qr, qs = q0 :: qr := by
    cases qs with
    | nil => cases hq12
    | cons a b => exact ⟨a, b, rfl⟩
  obtain ⟨lo, hlo, hlo2, hlo3⟩ : ∃ m, m ∈ qs ∧ (∀ r ∈ qs, m ≤ r) ∧ v_least_one [.tuple (qs.map N)] = .ok (N m) := by
    rw [hqe]; exact least_eq (k := 70) (by omega) q0 qr (by rw [← hqe]; exact hq) (by rw [← hqe]; omega)
  obtain ⟨hi, hhi, hhi2, hhi3⟩ : ∃ m, m ∈ qs ∧ (∀ r ∈ qs, r ≤ m) ∧ v_greatest_one [.tuple (qs.map N)] = .ok (N m) := by
    rw [hqe]; exact greatest_eq (k := 70) (by omega) q0 qr (by rw [← hqe]; exact hq) (by rw [← hqe]; omega)
  obtain ⟨y3, y6, y8, y12, e3⟩ := B3_loop (S := some (.pu (scrD ns))) (R0 := some (.pu (.list (ds.map .int)))) (z4 := w4) (z5 := w5) (z7 := w7) (z9 := x9) (z10 := some (.pu (N lo))) (z11 := some (.pu (N hi))) hq hq12 (List.range 6) w3 x6 x8 none (fun k hk => List.mem_range.mp hk)
  show fnK (b_law [some (.pu (scrD ns)), none, none, none, none, none, none, none, none, none, none, none, none]) = _
  unfold b_law
  refine (congrArg fnK (sq_nx (ρ1 := [some (.pu (scrD ns)), some (.pu (.list (ds.map .int))), none, none, none, none, none, none, none, none, none, none, none]) ?_)).trans ?_
  · refine st_nx (ρ := [some (.pu (scrD ns)), none, none, none, none, none, none, none, none, none, none, none, none]) ?_
    show cuK 2 v__law_draws (.ok [scrD ns, .int 120]) = _
    rw [cuK_2]
    exact hdr
  refine (congrArg fnK (sq_nx (ρ1 := [some (.pu (scrD ns)), some (.pu (.list (ds.map .int))), some (.ow []), none, none, none, none, none, none, none, none, none, none]) rfl)).trans ?_
  refine (congrArg fnK (sq_nx (ρ1 := [some (.pu (scrD ns)), some (.pu (.list (ds.map .int))), some (.ow (qs.map N)), w3, w4, w5, w6, w7, none, none, none, none, none]) ?_)).trans ?_
  · rw [loO_ap, rng1F_ap, cD_ap, show rgK (.ok (.int 12)) = .ok (rngD 0 12) from rg_ok (m := 12) (by omega), loK_ok]
    exact e1
  refine (congrArg fnK (sq_nx (ρ1 := [some (.pu (scrD ns)), some (.pu (.list (ds.map .int))), some (.ow (qs.map N)), w3, w4, w5, x6, w7, x8, x9, none, none, none]) ?_)).trans ?_
  · rw [loO_ap]
    show loK (.ok (qs.map N)) _ _ _ = _
    rw [loK_ok]
    exact e2
  refine (congrArg fnK (sq_nx (ρ1 := [some (.pu (scrD ns)), some (.pu (.list (ds.map .int))), some (.ow (qs.map N)), w3, w4, w5, x6, w7, x8, x9, some (.pu (N lo)), some (.pu (N hi)), none]) ?_)).trans ?_
  · simp only [unO_ap, tupD_ap, consA_ap, callU_ap, callF_ap, ownD_succ, ownD_zero, R.ok_bind, nilA_ap, cnK_ok, cuK_1, hlo3, hhi3, tuK_2, unK_ok, tupG2_ap, consG_ap, nmG_ap, cgK_ok, nilG_ap, grd_ok, List.set]
  refine (congrArg fnK (sq_nx (if_skip (or_ff ?_ (or_ff ?_ ?_))))).trans ?_
  · rw [asF_ap, inL_ap]
    show asB (inK true (.ok (N lo)) (.ok (qs.map N))) = _
    rw [in_rows hlo, asB_ok]
  · rw [asF_ap, inL_ap]
    show asB (inK true (.ok (N hi)) (.ok (qs.map N))) = _
    rw [in_rows hhi, asB_ok]
  · rw [asF_ap, callF_ap, lcF_ap]
    show asB ((lcK (.ok (qs.map N)) _ _ _ _ _).bind anyK) = _
    rw [lcK_ok (by unfold lineOk; rw [List.length_map, hq12]; rfl), compO_map (fun _ => .bool false), R.ok_bind, anyK_falses, asB_ok]
    intro d hd
    obtain ⟨r, hr, rfl⟩ := List.mem_map.mp hd
    refine ⟨_, rfl, ?_⟩
    have c1 : decide (sgI (ordI r lo) < 0) = false := decide_eq_false fun h => Rat.not_le.mpr ((ord_neg r lo).mp ((sg_neg _).mp h)) (hlo2 r hr)
    have c2 : decide (0 < sgI (ordI r hi)) = false := decide_eq_false fun h => Rat.not_le.mpr ((ord_pos r hi).mp ((sg_pos _).mp h)) (hhi2 r hr)
    simp only [wipeS_cons, wipeS_nil, List.set, orV_ap, bin2_ap, callU_ap, consA_ap, varD_succ, varD_zero, cD_ap, nilA_ap, cnK_ok, cuK_2, compare_eq (hq r hr) (hq lo hlo) (by omega), compare_eq (hq r hr) (hq hi hhi) (by omega), k2_ok, ltD_int, gtD_int, c1, c2, asB_ok, orVK_f]
  refine (congrArg fnK (sq_nx (ρ1 := [some (.pu (scrD ns)), some (.pu (.list (ds.map .int))), some (.ow (qs.map N)), y3, w4, w5, y6, w7, y8, x9, some (.pu (N lo)), some (.pu (N hi)), y12]) ?_)).trans ?_
  · rw [loO_ap, rng1F_ap, cD_ap, show rgK (.ok (.int 6)) = .ok (rngD 0 6) from rg_ok (m := 6) (by omega), loK_ok]
    exact e3
  rw [rtO_ap, refuses_eq, rtK_ok, fnK_rt]
end Mt

namespace Wk
open PySem PySem.Spec PyProof.Rows L2 TD Dn
def topS (i : Nat) : Stmt := PySem.Challenge.pw_touchtrue_k00_whole_numbers.main.body.getD i (.Pass ⟨0, 0, 0, 0⟩)
abbrev s__law_draws : Stmt := topS 49
abbrev N__law_draws : List Str := ["script", "many", "draws", "seed", "cell", "number", "k"]
theorem sc__law_draws : FnScope N__law_draws ["script", "many"] (defScope s__law_draws) := ⟨rfl, rfl, rfl, by decide +kernel, rfl, by decide +kernel, by decide +kernel⟩
abbrev s_is_integer : Stmt := topS 8
abbrev N_is_integer : List Str := ["value"]
theorem sc_is_integer : FnScope N_is_integer ["value"] (defScope s_is_integer) := ⟨rfl, rfl, rfl, by decide +kernel, rfl, by decide +kernel, by decide +kernel⟩
abbrev s_divisor : Stmt := topS 9
abbrev N_divisor : List Str := ["one", "other"]
theorem sc_divisor : FnScope N_divisor ["one", "other"] (defScope s_divisor) := ⟨rfl, rfl, rfl, by decide +kernel, rfl, by decide +kernel, by decide +kernel⟩
abbrev s_is_number : Stmt := topS 10
abbrev N_is_number : List Str := ["value"]
theorem sc_is_number : FnScope N_is_number ["value"] (defScope s_is_number) := ⟨rfl, rfl, rfl, by decide +kernel, rfl, by decide +kernel, by decide +kernel⟩
abbrev s_check_numbers : Stmt := topS 13
abbrev N_check_numbers : List Str := ["values", "value"]
theorem sc_check_numbers : FnScope N_check_numbers ["values"] (defScope s_check_numbers) := ⟨rfl, rfl, rfl, by decide +kernel, rfl, by decide +kernel, by decide +kernel⟩
abbrev s_made : Stmt := topS 11
abbrev N_made : List Str := ["above", "below", "common"]
theorem sc_made : FnScope N_made ["above", "below"] (defScope s_made) := ⟨rfl, rfl, rfl, by decide +kernel, rfl, by decide +kernel, by decide +kernel⟩
abbrev s_sum_of : Stmt := topS 14
abbrev N_sum_of : List Str := ["one", "other"]
theorem sc_sum_of : FnScope N_sum_of ["one", "other"] (defScope s_sum_of) := ⟨rfl, rfl, rfl, by decide +kernel, rfl, by decide +kernel, by decide +kernel⟩
abbrev s_plus : Stmt := topS 19
abbrev N_plus : List Str := ["one", "other"]
theorem sc_plus : FnScope N_plus ["one", "other"] (defScope s_plus) := ⟨rfl, rfl, rfl, by decide +kernel, rfl, by decide +kernel, by decide +kernel⟩
abbrev s_difference : Stmt := topS 15
abbrev N_difference : List Str := ["one", "other"]
theorem sc_difference : FnScope N_difference ["one", "other"] (defScope s_difference) := ⟨rfl, rfl, rfl, by decide +kernel, rfl, by decide +kernel, by decide +kernel⟩
abbrev s_minus : Stmt := topS 20
abbrev N_minus : List Str := ["one", "other"]
theorem sc_minus : FnScope N_minus ["one", "other"] (defScope s_minus) := ⟨rfl, rfl, rfl, by decide +kernel, rfl, by decide +kernel, by decide +kernel⟩
abbrev s_product : Stmt := topS 16
abbrev N_product : List Str := ["one", "other"]
theorem sc_product : FnScope N_product ["one", "other"] (defScope s_product) := ⟨rfl, rfl, rfl, by decide +kernel, rfl, by decide +kernel, by decide +kernel⟩
abbrev s_times : Stmt := topS 21
abbrev N_times : List Str := ["one", "other"]
theorem sc_times : FnScope N_times ["one", "other"] (defScope s_times) := ⟨rfl, rfl, rfl, by decide +kernel, rfl, by decide +kernel, by decide +kernel⟩
abbrev s_quotient : Stmt := topS 17
abbrev N_quotient : List Str := ["one", "other"]
theorem sc_quotient : FnScope N_quotient ["one", "other"] (defScope s_quotient) := ⟨rfl, rfl, rfl, by decide +kernel, rfl, by decide +kernel, by decide +kernel⟩
abbrev s_over : Stmt := topS 22
abbrev N_over : List Str := ["one", "other"]
theorem sc_over : FnScope N_over ["one", "other"] (defScope s_over) := ⟨rfl, rfl, rfl, by decide +kernel, rfl, by decide +kernel, by decide +kernel⟩
abbrev s_order : Stmt := topS 18
abbrev N_order : List Str := ["one", "other", "found"]
theorem sc_order : FnScope N_order ["one", "other"] (defScope s_order) := ⟨rfl, rfl, rfl, by decide +kernel, rfl, by decide +kernel, by decide +kernel⟩
abbrev s_compare : Stmt := topS 24
abbrev N_compare : List Str := ["one", "other"]
theorem sc_compare : FnScope N_compare ["one", "other"] (defScope s_compare) := ⟨rfl, rfl, rfl, by decide +kernel, rfl, by decide +kernel, by decide +kernel⟩
abbrev s_ratio : Stmt := topS 12
abbrev N_ratio : List Str := ["above", "below"]
theorem sc_ratio : FnScope N_ratio ["above", "below"] (defScope s_ratio) := ⟨rfl, rfl, rfl, by decide +kernel, rfl, by decide +kernel, by decide +kernel⟩
abbrev s_turned : Stmt := topS 23
abbrev N_turned : List Str := ["one"]
theorem sc_turned : FnScope N_turned ["one"] (defScope s_turned) := ⟨rfl, rfl, rfl, by decide +kernel, rfl, by decide +kernel, by decide +kernel⟩
abbrev s__check_some : Stmt := topS 27
abbrev N__check_some : List Str := ["numbers"]
theorem sc__check_some : FnScope N__check_some ["numbers"] (defScope s__check_some) := ⟨rfl, rfl, rfl, by decide +kernel, rfl, by decide +kernel, by decide +kernel⟩
abbrev s_least_of : Stmt := topS 25
abbrev N_least_of : List Str := ["numbers", "found", "one"]
theorem sc_least_of : FnScope N_least_of ["numbers"] (defScope s_least_of) := ⟨rfl, rfl, rfl, by decide +kernel, rfl, by decide +kernel, by decide +kernel⟩
abbrev s_least_one : Stmt := topS 28
abbrev N_least_one : List Str := ["numbers"]
theorem sc_least_one : FnScope N_least_one ["numbers"] (defScope s_least_one) := ⟨rfl, rfl, rfl, by decide +kernel, rfl, by decide +kernel, by decide +kernel⟩
abbrev s_greatest_of : Stmt := topS 26
abbrev N_greatest_of : List Str := ["numbers", "found", "one"]
theorem sc_greatest_of : FnScope N_greatest_of ["numbers"] (defScope s_greatest_of) := ⟨rfl, rfl, rfl, by decide +kernel, rfl, by decide +kernel, by decide +kernel⟩
abbrev s_greatest_one : Stmt := topS 29
abbrev N_greatest_one : List Str := ["numbers"]
theorem sc_greatest_one : FnScope N_greatest_one ["numbers"] (defScope s_greatest_one) := ⟨rfl, rfl, rfl, by decide +kernel, rfl, by decide +kernel, by decide +kernel⟩
abbrev s_text_by : Stmt := topS 30
abbrev N_text_by : List Str := ["one"]
theorem sc_text_by : FnScope N_text_by ["one"] (defScope s_text_by) := ⟨rfl, rfl, rfl, by decide +kernel, rfl, by decide +kernel, by decide +kernel⟩
abbrev s_number_text : Stmt := topS 31
abbrev N_number_text : List Str := ["one"]
theorem sc_number_text : FnScope N_number_text ["one"] (defScope s_number_text) := ⟨rfl, rfl, rfl, by decide +kernel, rfl, by decide +kernel, by decide +kernel⟩
abbrev s_integer_of : Stmt := topS 32
abbrev N_integer_of : List Str := ["word", "bare", "sign"]
theorem sc_integer_of : FnScope N_integer_of ["word"] (defScope s_integer_of) := ⟨rfl, rfl, rfl, by decide +kernel, rfl, by decide +kernel, by decide +kernel⟩
abbrev s_read_number : Stmt := topS 33
abbrev N_read_number : List Str := ["text", "parts", "found", "own", "part"]
theorem sc_read_number : FnScope N_read_number ["text"] (defScope s_read_number) := ⟨rfl, rfl, rfl, by decide +kernel, rfl, by decide +kernel, by decide +kernel⟩
abbrev s_number_of : Stmt := topS 34
abbrev N_number_of : List Str := ["text", "found"]
theorem sc_number_of : FnScope N_number_of ["text"] (defScope s_number_of) := ⟨rfl, rfl, rfl, by decide +kernel, rfl, by decide +kernel, by decide +kernel⟩
abbrev s_is_point : Stmt := topS 36
abbrev N_is_point : List Str := ["value"]
theorem sc_is_point : FnScope N_is_point ["value"] (defScope s_is_point) := ⟨rfl, rfl, rfl, by decide +kernel, rfl, by decide +kernel, by decide +kernel⟩
abbrev s_check_points : Stmt := topS 37
abbrev N_check_points : List Str := ["values", "value"]
theorem sc_check_points : FnScope N_check_points ["values"] (defScope s_check_points) := ⟨rfl, rfl, rfl, by decide +kernel, rfl, by decide +kernel, by decide +kernel⟩
abbrev s_sum_way : Stmt := topS 38
abbrev N_sum_way : List Str := ["one", "other"]
theorem sc_sum_way : FnScope N_sum_way ["one", "other"] (defScope s_sum_way) := ⟨rfl, rfl, rfl, by decide +kernel, rfl, by decide +kernel, by decide +kernel⟩
abbrev s_added : Stmt := topS 43
abbrev N_added : List Str := ["one", "other"]
theorem sc_added : FnScope N_added ["one", "other"] (defScope s_added) := ⟨rfl, rfl, rfl, by decide +kernel, rfl, by decide +kernel, by decide +kernel⟩
abbrev s_way_between : Stmt := topS 39
abbrev N_way_between : List Str := ["one", "other"]
theorem sc_way_between : FnScope N_way_between ["one", "other"] (defScope s_way_between) := ⟨rfl, rfl, rfl, by decide +kernel, rfl, by decide +kernel, by decide +kernel⟩
abbrev s_taken : Stmt := topS 44
abbrev N_taken : List Str := ["one", "other"]
theorem sc_taken : FnScope N_taken ["one", "other"] (defScope s_taken) := ⟨rfl, rfl, rfl, by decide +kernel, rfl, by decide +kernel, by decide +kernel⟩
abbrev s_dot_by : Stmt := topS 41
abbrev N_dot_by : List Str := ["one", "other"]
theorem sc_dot_by : FnScope N_dot_by ["one", "other"] (defScope s_dot_by) := ⟨rfl, rfl, rfl, by decide +kernel, rfl, by decide +kernel, by decide +kernel⟩
abbrev s_dot : Stmt := topS 46
abbrev N_dot : List Str := ["one", "other"]
theorem sc_dot : FnScope N_dot ["one", "other"] (defScope s_dot) := ⟨rfl, rfl, rfl, by decide +kernel, rfl, by decide +kernel, by decide +kernel⟩
abbrev s_cross_by : Stmt := topS 42
abbrev N_cross_by : List Str := ["one", "other"]
theorem sc_cross_by : FnScope N_cross_by ["one", "other"] (defScope s_cross_by) := ⟨rfl, rfl, rfl, by decide +kernel, rfl, by decide +kernel, by decide +kernel⟩
abbrev s_cross : Stmt := topS 47
abbrev N_cross : List Str := ["one", "other"]
theorem sc_cross : FnScope N_cross ["one", "other"] (defScope s_cross) := ⟨rfl, rfl, rfl, by decide +kernel, rfl, by decide +kernel, by decide +kernel⟩
abbrev s_way_times : Stmt := topS 40
abbrev N_way_times : List Str := ["one", "way"]
theorem sc_way_times : FnScope N_way_times ["one", "way"] (defScope s_way_times) := ⟨rfl, rfl, rfl, by decide +kernel, rfl, by decide +kernel, by decide +kernel⟩
abbrev s_stretched : Stmt := topS 45
abbrev N_stretched : List Str := ["one", "way"]
theorem sc_stretched : FnScope N_stretched ["one", "way"] (defScope s_stretched) := ⟨rfl, rfl, rfl, by decide +kernel, rfl, by decide +kernel, by decide +kernel⟩
abbrev s__law_error : Stmt := topS 55
abbrev N__law_error : List Str := ["call", "one", "two"]
theorem sc__law_error : FnScope N__law_error ["call", "one", "two"] (defScope s__law_error) := ⟨rfl, rfl, rfl, by decide +kernel, rfl, by decide +kernel, by decide +kernel⟩
abbrev s__law_refuses : Stmt := topS 56
abbrev N__law_refuses : List Str := ["good", "way", "wrong", "one", "two", "call"]
theorem sc__law_refuses : FnScope N__law_refuses [] (defScope s__law_refuses) := ⟨rfl, rfl, rfl, by decide +kernel, rfl, by decide +kernel, by decide +kernel⟩
abbrev s__law_is : Stmt := topS 54
abbrev N__law_is : List Str := ["one", "above", "below"]
theorem sc__law_is : FnScope N__law_is ["one", "above", "below"] (defScope s__law_is) := ⟨rfl, rfl, rfl, by decide +kernel, rfl, by decide +kernel, by decide +kernel⟩
abbrev s_law : Stmt := topS 57
abbrev N_law : List Str := ["script", "draws", "rows", "k", "above", "below", "one", "text", "two", "apart", "low", "high", "by"]
theorem sc_law : FnScope N_law ["script"] (defScope s_law) := ⟨rfl, rfl, rfl, by decide +kernel, rfl, by decide +kernel, by decide +kernel⟩
structure Txt (K : PySem.W.Frag) (mg : Str → Option Value) where
  n_abs : mg "abs" = none
  n_all : mg "all" = none
  n_any : mg "any" = none
  n_bool : mg "bool" = none
  n_int : mg "int" = none
  n_isinstance : mg "isinstance" = none
  n_len : mg "len" = none
  n_range : mg "range" = none
  n_str : mg "str" = none
  n_tuple : mg "tuple" = none
  t_FIGURES : Tok
  c_FIGURES : mg "FIGURES" = some (.str "0123456789" t_FIGURES)
  t_MOST_FIGURES : Tok
  c_MOST_FIGURES : mg "MOST_FIGURES" = some (.int 300 t_MOST_FIGURES)
  C_BadNumber : Addr
  x_BadNumber : ExcF K mg "BadNumber" C_BadNumber
  C_BadPoint : Addr
  x_BadPoint : ExcF K mg "BadPoint" C_BadPoint
  C_BadText : Addr
  x_BadText : ExcF K mg "BadText" C_BadText
  exs : EX K mg ["BadNumber", "BadPoint", "BadText"]
  f__law_draws : Addr
  d__law_draws : FuncData
  F__law_draws : Fun K "_law_draws" "_law_draws" s__law_draws f__law_draws d__law_draws
  g__law_draws : mg "_law_draws" = some (.ref f__law_draws)
  b__law_draws : Binds K d__law_draws ["script", "many"] []
  f_is_integer : Addr
  d_is_integer : FuncData
  F_is_integer : Fun K "is_integer" "is_integer" s_is_integer f_is_integer d_is_integer
  g_is_integer : mg "is_integer" = some (.ref f_is_integer)
  b_is_integer : Binds K d_is_integer ["value"] []
  f_divisor : Addr
  d_divisor : FuncData
  F_divisor : Fun K "divisor" "divisor" s_divisor f_divisor d_divisor
  g_divisor : mg "divisor" = some (.ref f_divisor)
  b_divisor : Binds K d_divisor ["one", "other"] []
  f_is_number : Addr
  d_is_number : FuncData
  F_is_number : Fun K "is_number" "is_number" s_is_number f_is_number d_is_number
  g_is_number : mg "is_number" = some (.ref f_is_number)
  b_is_number : Binds K d_is_number ["value"] []
  f_check_numbers : Addr
  d_check_numbers : FuncData
  F_check_numbers : Fun K "check_numbers" "check_numbers" s_check_numbers f_check_numbers d_check_numbers
  g_check_numbers : mg "check_numbers" = some (.ref f_check_numbers)
  b_check_numbers : Binds K d_check_numbers ["values"] []
  f_made : Addr
  d_made : FuncData
  F_made : Fun K "made" "made" s_made f_made d_made
  g_made : mg "made" = some (.ref f_made)
  b_made : Binds K d_made ["above", "below"] []
  f_sum_of : Addr
  d_sum_of : FuncData
  F_sum_of : Fun K "sum_of" "sum_of" s_sum_of f_sum_of d_sum_of
  g_sum_of : mg "sum_of" = some (.ref f_sum_of)
  b_sum_of : Binds K d_sum_of ["one", "other"] []
  f_plus : Addr
  d_plus : FuncData
  F_plus : Fun K "plus" "plus" s_plus f_plus d_plus
  g_plus : mg "plus" = some (.ref f_plus)
  b_plus : Binds K d_plus ["one", "other"] []
  f_difference : Addr
  d_difference : FuncData
  F_difference : Fun K "difference" "difference" s_difference f_difference d_difference
  g_difference : mg "difference" = some (.ref f_difference)
  b_difference : Binds K d_difference ["one", "other"] []
  f_minus : Addr
  d_minus : FuncData
  F_minus : Fun K "minus" "minus" s_minus f_minus d_minus
  g_minus : mg "minus" = some (.ref f_minus)
  b_minus : Binds K d_minus ["one", "other"] []
  f_product : Addr
  d_product : FuncData
  F_product : Fun K "product" "product" s_product f_product d_product
  g_product : mg "product" = some (.ref f_product)
  b_product : Binds K d_product ["one", "other"] []
  f_times : Addr
  d_times : FuncData
  F_times : Fun K "times" "times" s_times f_times d_times
  g_times : mg "times" = some (.ref f_times)
  b_times : Binds K d_times ["one", "other"] []
  f_quotient : Addr
  d_quotient : FuncData
  F_quotient : Fun K "quotient" "quotient" s_quotient f_quotient d_quotient
  g_quotient : mg "quotient" = some (.ref f_quotient)
  b_quotient : Binds K d_quotient ["one", "other"] []
  f_over : Addr
  d_over : FuncData
  F_over : Fun K "over" "over" s_over f_over d_over
  g_over : mg "over" = some (.ref f_over)
  b_over : Binds K d_over ["one", "other"] []
  f_order : Addr
  d_order : FuncData
  F_order : Fun K "order" "order" s_order f_order d_order
  g_order : mg "order" = some (.ref f_order)
  b_order : Binds K d_order ["one", "other"] []
  f_compare : Addr
  d_compare : FuncData
  F_compare : Fun K "compare" "compare" s_compare f_compare d_compare
  g_compare : mg "compare" = some (.ref f_compare)
  b_compare : Binds K d_compare ["one", "other"] []
  f_ratio : Addr
  d_ratio : FuncData
  F_ratio : Fun K "ratio" "ratio" s_ratio f_ratio d_ratio
  g_ratio : mg "ratio" = some (.ref f_ratio)
  b_ratio : Binds K d_ratio ["above", "below"] []
  f_turned : Addr
  d_turned : FuncData
  F_turned : Fun K "turned" "turned" s_turned f_turned d_turned
  g_turned : mg "turned" = some (.ref f_turned)
  b_turned : Binds K d_turned ["one"] []
  f__check_some : Addr
  d__check_some : FuncData
  F__check_some : Fun K "_check_some" "_check_some" s__check_some f__check_some d__check_some
  g__check_some : mg "_check_some" = some (.ref f__check_some)
  b__check_some : Binds K d__check_some ["numbers"] []
  f_least_of : Addr
  d_least_of : FuncData
  F_least_of : Fun K "least_of" "least_of" s_least_of f_least_of d_least_of
  g_least_of : mg "least_of" = some (.ref f_least_of)
  b_least_of : Binds K d_least_of ["numbers"] []
  f_least_one : Addr
  d_least_one : FuncData
  F_least_one : Fun K "least_one" "least_one" s_least_one f_least_one d_least_one
  g_least_one : mg "least_one" = some (.ref f_least_one)
  b_least_one : Binds K d_least_one ["numbers"] []
  f_greatest_of : Addr
  d_greatest_of : FuncData
  F_greatest_of : Fun K "greatest_of" "greatest_of" s_greatest_of f_greatest_of d_greatest_of
  g_greatest_of : mg "greatest_of" = some (.ref f_greatest_of)
  b_greatest_of : Binds K d_greatest_of ["numbers"] []
  f_greatest_one : Addr
  d_greatest_one : FuncData
  F_greatest_one : Fun K "greatest_one" "greatest_one" s_greatest_one f_greatest_one d_greatest_one
  g_greatest_one : mg "greatest_one" = some (.ref f_greatest_one)
  b_greatest_one : Binds K d_greatest_one ["numbers"] []
  f_text_by : Addr
  d_text_by : FuncData
  F_text_by : Fun K "text_by" "text_by" s_text_by f_text_by d_text_by
  g_text_by : mg "text_by" = some (.ref f_text_by)
  b_text_by : Binds K d_text_by ["one"] []
  f_number_text : Addr
  d_number_text : FuncData
  F_number_text : Fun K "number_text" "number_text" s_number_text f_number_text d_number_text
  g_number_text : mg "number_text" = some (.ref f_number_text)
  b_number_text : Binds K d_number_text ["one"] []
  f_integer_of : Addr
  d_integer_of : FuncData
  F_integer_of : Fun K "integer_of" "integer_of" s_integer_of f_integer_of d_integer_of
  g_integer_of : mg "integer_of" = some (.ref f_integer_of)
  b_integer_of : Binds K d_integer_of ["word"] []
  f_read_number : Addr
  d_read_number : FuncData
  F_read_number : Fun K "read_number" "read_number" s_read_number f_read_number d_read_number
  g_read_number : mg "read_number" = some (.ref f_read_number)
  b_read_number : Binds K d_read_number ["text"] []
  f_number_of : Addr
  d_number_of : FuncData
  F_number_of : Fun K "number_of" "number_of" s_number_of f_number_of d_number_of
  g_number_of : mg "number_of" = some (.ref f_number_of)
  b_number_of : Binds K d_number_of ["text"] []
  f_is_point : Addr
  d_is_point : FuncData
  F_is_point : Fun K "is_point" "is_point" s_is_point f_is_point d_is_point
  g_is_point : mg "is_point" = some (.ref f_is_point)
  b_is_point : Binds K d_is_point ["value"] []
  f_check_points : Addr
  d_check_points : FuncData
  F_check_points : Fun K "check_points" "check_points" s_check_points f_check_points d_check_points
  g_check_points : mg "check_points" = some (.ref f_check_points)
  b_check_points : Binds K d_check_points ["values"] []
  f_sum_way : Addr
  d_sum_way : FuncData
  F_sum_way : Fun K "sum_way" "sum_way" s_sum_way f_sum_way d_sum_way
  g_sum_way : mg "sum_way" = some (.ref f_sum_way)
  b_sum_way : Binds K d_sum_way ["one", "other"] []
  f_added : Addr
  d_added : FuncData
  F_added : Fun K "added" "added" s_added f_added d_added
  g_added : mg "added" = some (.ref f_added)
  b_added : Binds K d_added ["one", "other"] []
  f_way_between : Addr
  d_way_between : FuncData
  F_way_between : Fun K "way_between" "way_between" s_way_between f_way_between d_way_between
  g_way_between : mg "way_between" = some (.ref f_way_between)
  b_way_between : Binds K d_way_between ["one", "other"] []
  f_taken : Addr
  d_taken : FuncData
  F_taken : Fun K "taken" "taken" s_taken f_taken d_taken
  g_taken : mg "taken" = some (.ref f_taken)
  b_taken : Binds K d_taken ["one", "other"] []
  f_dot_by : Addr
  d_dot_by : FuncData
  F_dot_by : Fun K "dot_by" "dot_by" s_dot_by f_dot_by d_dot_by
  g_dot_by : mg "dot_by" = some (.ref f_dot_by)
  b_dot_by : Binds K d_dot_by ["one", "other"] []
  f_dot : Addr
  d_dot : FuncData
  F_dot : Fun K "dot" "dot" s_dot f_dot d_dot
  g_dot : mg "dot" = some (.ref f_dot)
  b_dot : Binds K d_dot ["one", "other"] []
  f_cross_by : Addr
  d_cross_by : FuncData
  F_cross_by : Fun K "cross_by" "cross_by" s_cross_by f_cross_by d_cross_by
  g_cross_by : mg "cross_by" = some (.ref f_cross_by)
  b_cross_by : Binds K d_cross_by ["one", "other"] []
  f_cross : Addr
  d_cross : FuncData
  F_cross : Fun K "cross" "cross" s_cross f_cross d_cross
  g_cross : mg "cross" = some (.ref f_cross)
  b_cross : Binds K d_cross ["one", "other"] []
  f_way_times : Addr
  d_way_times : FuncData
  F_way_times : Fun K "way_times" "way_times" s_way_times f_way_times d_way_times
  g_way_times : mg "way_times" = some (.ref f_way_times)
  b_way_times : Binds K d_way_times ["one", "way"] []
  f_stretched : Addr
  d_stretched : FuncData
  F_stretched : Fun K "stretched" "stretched" s_stretched f_stretched d_stretched
  g_stretched : mg "stretched" = some (.ref f_stretched)
  b_stretched : Binds K d_stretched ["one", "way"] []
  f__law_error : Addr
  d__law_error : FuncData
  F__law_error : Fun K "_law_error" "_law_error" s__law_error f__law_error d__law_error
  g__law_error : mg "_law_error" = some (.ref f__law_error)
  b__law_error : Binds K d__law_error ["call", "one", "two"] []
  f__law_refuses : Addr
  d__law_refuses : FuncData
  F__law_refuses : Fun K "_law_refuses" "_law_refuses" s__law_refuses f__law_refuses d__law_refuses
  g__law_refuses : mg "_law_refuses" = some (.ref f__law_refuses)
  b__law_refuses : Binds K d__law_refuses [] []
  f__law_is : Addr
  d__law_is : FuncData
  F__law_is : Fun K "_law_is" "_law_is" s__law_is f__law_is d__law_is
  g__law_is : mg "_law_is" = some (.ref f__law_is)
  b__law_is : Binds K d__law_is ["one", "above", "below"] []
  f_law : Addr
  d_law : FuncData
  F_law : Fun K "law" "law" s_law f_law d_law
  g_law : mg "law" = some (.ref f_law)
  b_law : Binds K d_law ["script"] []
section
variable {P : Program} {w : World} {K : PySem.W.Frag} {mg : Str → Option Value} {base : Heap}
theorem ok__law_draws (T : Txt K mg) : FnD P w K mg base 1 T.f__law_draws T.d__law_draws ["script", "many"] v__law_draws := def_ok (k := 0) T.F__law_draws sc__law_draws fun cdv A outer s H E hr tk hp =>
  (ss_cons (s_own 2 sc__law_draws.nd (n_lst a_nil))
  (ss_cons (s_set 3 sc__law_draws.nd d_int)
  (ss_cons (s_for hp (i_seq (d_new (n_slcS (d_var 0) o_none (o_some d_int)))) (g_name 4 sc__law_draws.nd)
  (ss_cons (s_set 5 sc__law_draws.nd (d_blt call_abs cd_abs T.n_abs boot_abs (a_cons (d_var 4) a_nil)))
  (ss_cons (s_set 3 sc__law_draws.nd (d_op op_modN od_mod (d_ty cr_intG cd_intG T.n_int boot_int (a_cons (d_op or_add od_add (d_op or_add od_add (d_op op_mulW od_mul (d_var 3) d_int) (d_var 5)) d_int) a_nil)) d_int))
  (ss_one (s_if (dt_cmp op_ge od_ge (d_var 5) (d_op op_pow od_pow d_int d_int) (nomark _))
  (ss_one (s_for hp (i_rng1 T.n_range d_int) (g_name 6 sc__law_draws.nd)
  (ss_one (s_if (dt_cmp op_gt od_gt (d_var 5) d_int (nomark _))
  (ss_cons (s_app 2 (d_op op_modN od_mod (d_ty cr_intG cd_intG T.n_int boot_int (a_cons (d_var 5) a_nil)) d_int))
  (ss_one (s_set 5 sc__law_draws.nd (d_op op_fdivZ od_fdiv (d_var 5) d_int))))
  ss_nil))))
  (ss_one (s_app 2 (d_op op_modN od_mod (d_op op_fdivZ od_fdiv (d_ty cr_intG cd_intG T.n_int boot_int (a_cons (d_op or_add od_add (d_op op_mulW od_mul (d_var 3) d_int) d_int) a_nil)) d_int) d_int))))))))
  (ss_cons (s_for hp (i_rng1 T.n_range (d_var 1)) (g_name 6 sc__law_draws.nd)
  (ss_one (s_if (dt_cmp (or_lt hr.units0) od_lt (d_bltL cr_len ld_len T.n_len PySem.boot_len (l_own 2)) (d_var 1) (nomark _))
  (ss_cons (s_set 3 sc__law_draws.nd (d_op op_modN od_mod (d_ty cr_intG cd_intG T.n_int boot_int (a_cons (d_op or_add od_add (d_op or_add od_add (d_op op_mulW od_mul (d_var 3) d_int) (d_var 6)) d_int) a_nil)) d_int))
  (ss_one (s_app 2 (d_op op_modN od_mod (d_op op_fdivZ od_fdiv (d_ty cr_intG cd_intG T.n_int boot_int (a_cons (d_var 3) a_nil)) d_int) d_int))))
  ss_nil)))
  (ss_one (s_ret (d_new (n_slc (l_own 2) o_none (o_some (d_var 1))))))))))
theorem ok_is_integer (T : Txt K mg) : FnD P w K mg base 1 T.f_is_integer T.d_is_integer ["value"] v_is_integer := def_ok (k := 0) T.F_is_integer sc_is_integer fun cdv A outer s H E hr tk hp =>
  (ss_one (s_ret (d_and (d_isi T.n_isinstance T.n_int boot_int (d_var 0)) (d_one (d_not (d_isi T.n_isinstance T.n_bool boot_bool (d_var 0)))))))
theorem ok_divisor (T : Txt K mg) : FnD P w K mg base 1 T.f_divisor T.d_divisor ["one", "other"] v_divisor := def_ok (k := 0) T.F_divisor sc_divisor fun cdv A outer s H E hr tk hp =>
  (ss_cons (s_par 0 1 sc_divisor.nd (a_cons (d_blt call_abs cd_abs T.n_abs boot_abs (a_cons (d_var 0) a_nil)) (a_cons (d_blt call_abs cd_abs T.n_abs boot_abs (a_cons (d_var 1) a_nil)) a_nil)))
  (ss_cons (s_while hp (dt_cmp op_gt od_gt (d_var 1) d_int (nomark _))
  (ss_one (s_par 0 1 sc_divisor.nd (a_cons (d_var 1) (a_cons (d_op op_modN od_mod (d_var 0) (d_var 1)) a_nil)))))
  (ss_one (s_ret (d_var 0)))))
theorem ok_is_number (T : Txt K mg) : FnD P w K mg base 2 T.f_is_number T.d_is_number ["value"] v_is_number := def_ok (k := 1) T.F_is_number sc_is_number fun cdv A outer s H E hr tk hp =>
  (ss_cons (s_if (dt_w (dw_or (dt_not (dt_val (d_isi T.n_isinstance T.n_tuple boot_tuple (d_var 0)))) (dw_or (dt_cmp (op_neD hr.units) od_ne (d_blt cr_len cd_len T.n_len PySem.boot_len (a_cons (d_var 0) a_nil)) d_int (nomark _)) (dw_or (dt_not (dt_val (d_call (ok_is_integer T) (hr.mono (by decide)) tk T.g_is_integer T.F_is_integer.kp T.b_is_integer (a_cons (d_ix (d_var 0) d_int) a_nil)))) (dw_or1 (dt_not (dt_val (d_call (ok_is_integer T) (hr.mono (by decide)) tk T.g_is_integer T.F_is_integer.kp T.b_is_integer (a_cons (d_ix (d_var 0) d_int) a_nil)))))))))
  (ss_one (s_ret d_bl))
  ss_nil)
  (ss_one (s_ret (d_and (d_cmp op_ge od_ge (d_ix (d_var 0) d_int) d_int (nomark _)) (d_one (d_cmp (op_eqD hr.units) od_eq (d_call (ok_divisor T) (hr.mono (by decide)) tk T.g_divisor T.F_divisor.kp T.b_divisor (a_cons (d_ix (d_var 0) d_int) (a_cons (d_ix (d_var 0) d_int) a_nil))) d_int (nomark _)))))))
theorem ok_check_numbers (T : Txt K mg) : FnD P w K mg base 3 T.f_check_numbers T.d_check_numbers ["values"] v_check_numbers := def_ok (k := 2) T.F_check_numbers sc_check_numbers fun cdv A outer s H E hr tk hp =>
  (ss_one (s_if (dt_not (dt_val (d_bltL (cr_all rfl) ld_all T.n_all (by decide +kernel) (l_new (n_lc (own := [("value", 1)]) sc_check_numbers.nd (j_of (i_seq (d_var 0))) (blkOk_by (own := [("value", 1)]) (N := N_check_numbers) (sc := defScope s_check_numbers) (by decide +kernel)) (fun _ _ _ _ _ => (g_name 1 sc_check_numbers.nd)) (fun _ _ _ _ _ => ts_nil) (fun _ _ _ _ _ => (d_call (ok_is_number T) (hr.mono (by decide)) takes0 T.g_is_number T.F_is_number.kp T.b_is_number (a_cons (d_var 1) a_nil))))))))
  (ss_one (s_raise T.x_BadNumber tk))
  ss_nil))
theorem ok_made (T : Txt K mg) : FnD P w K mg base 2 T.f_made T.d_made ["above", "below"] v_made := def_ok (k := 1) T.F_made sc_made fun cdv A outer s H E hr tk hp =>
  (ss_cons (s_set 2 sc_made.nd (d_call (ok_divisor T) (hr.mono (by decide)) tk T.g_divisor T.F_divisor.kp T.b_divisor (a_cons (d_var 0) (a_cons (d_var 1) a_nil))))
  (ss_cons (s_if (dt_cmp (or_lt hr.units0) od_lt (d_var 1) d_int (nomark _))
  (ss_one (s_set 2 sc_made.nd (d_op op_sub od_sub d_int (d_var 2))))
  ss_nil)
  (ss_one (s_ret (d_tup (a_cons (d_op op_fdivZ od_fdiv (d_var 0) (d_var 2)) (a_cons (d_op op_fdivZ od_fdiv (d_var 1) (d_var 2)) a_nil)))))))
theorem ok_sum_of (T : Txt K mg) : FnD P w K mg base 3 T.f_sum_of T.d_sum_of ["one", "other"] v_sum_of := def_ok (k := 2) T.F_sum_of sc_sum_of fun cdv A outer s H E hr tk hp =>
  (ss_one (s_ret (d_call (ok_made T) (hr.mono (by decide)) tk T.g_made T.F_made.kp T.b_made (a_cons (d_op or_add od_add (d_op op_mulW od_mul (d_ix (d_var 0) d_int) (d_ix (d_var 1) d_int)) (d_op op_mulW od_mul (d_ix (d_var 1) d_int) (d_ix (d_var 0) d_int))) (a_cons (d_op op_mulW od_mul (d_ix (d_var 0) d_int) (d_ix (d_var 1) d_int)) a_nil)))))
theorem ok_plus (T : Txt K mg) : FnD P w K mg base 4 T.f_plus T.d_plus ["one", "other"] v_plus := def_ok (k := 3) T.F_plus sc_plus fun cdv A outer s H E hr tk hp =>
  (ss_cons (s_expr (d_call (ok_check_numbers T) (hr.mono (by decide)) tk T.g_check_numbers T.F_check_numbers.kp T.b_check_numbers (a_cons (d_tup (a_cons (d_var 0) (a_cons (d_var 1) a_nil))) a_nil)))
  (ss_one (s_ret (d_call (ok_sum_of T) (hr.mono (by decide)) tk T.g_sum_of T.F_sum_of.kp T.b_sum_of (a_cons (d_var 0) (a_cons (d_var 1) a_nil))))))
theorem ok_difference (T : Txt K mg) : FnD P w K mg base 3 T.f_difference T.d_difference ["one", "other"] v_difference := def_ok (k := 2) T.F_difference sc_difference fun cdv A outer s H E hr tk hp =>
  (ss_one (s_ret (d_call (ok_made T) (hr.mono (by decide)) tk T.g_made T.F_made.kp T.b_made (a_cons (d_op op_sub od_sub (d_op op_mulW od_mul (d_ix (d_var 0) d_int) (d_ix (d_var 1) d_int)) (d_op op_mulW od_mul (d_ix (d_var 1) d_int) (d_ix (d_var 0) d_int))) (a_cons (d_op op_mulW od_mul (d_ix (d_var 0) d_int) (d_ix (d_var 1) d_int)) a_nil)))))
theorem ok_minus (T : Txt K mg) : FnD P w K mg base 4 T.f_minus T.d_minus ["one", "other"] v_minus := def_ok (k := 3) T.F_minus sc_minus fun cdv A outer s H E hr tk hp =>
  (ss_cons (s_expr (d_call (ok_check_numbers T) (hr.mono (by decide)) tk T.g_check_numbers T.F_check_numbers.kp T.b_check_numbers (a_cons (d_tup (a_cons (d_var 0) (a_cons (d_var 1) a_nil))) a_nil)))
  (ss_one (s_ret (d_call (ok_difference T) (hr.mono (by decide)) tk T.g_difference T.F_difference.kp T.b_difference (a_cons (d_var 0) (a_cons (d_var 1) a_nil))))))
theorem ok_product (T : Txt K mg) : FnD P w K mg base 3 T.f_product T.d_product ["one", "other"] v_product := def_ok (k := 2) T.F_product sc_product fun cdv A outer s H E hr tk hp =>
  (ss_one (s_ret (d_call (ok_made T) (hr.mono (by decide)) tk T.g_made T.F_made.kp T.b_made (a_cons (d_op op_mulW od_mul (d_ix (d_var 0) d_int) (d_ix (d_var 1) d_int)) (a_cons (d_op op_mulW od_mul (d_ix (d_var 0) d_int) (d_ix (d_var 1) d_int)) a_nil)))))
theorem ok_times (T : Txt K mg) : FnD P w K mg base 4 T.f_times T.d_times ["one", "other"] v_times := def_ok (k := 3) T.F_times sc_times fun cdv A outer s H E hr tk hp =>
  (ss_cons (s_expr (d_call (ok_check_numbers T) (hr.mono (by decide)) tk T.g_check_numbers T.F_check_numbers.kp T.b_check_numbers (a_cons (d_tup (a_cons (d_var 0) (a_cons (d_var 1) a_nil))) a_nil)))
  (ss_one (s_ret (d_call (ok_product T) (hr.mono (by decide)) tk T.g_product T.F_product.kp T.b_product (a_cons (d_var 0) (a_cons (d_var 1) a_nil))))))
theorem ok_quotient (T : Txt K mg) : FnD P w K mg base 3 T.f_quotient T.d_quotient ["one", "other"] v_quotient := def_ok (k := 2) T.F_quotient sc_quotient fun cdv A outer s H E hr tk hp =>
  (ss_one (s_ret (d_call (ok_made T) (hr.mono (by decide)) tk T.g_made T.F_made.kp T.b_made (a_cons (d_op op_mulW od_mul (d_ix (d_var 0) d_int) (d_ix (d_var 1) d_int)) (a_cons (d_op op_mulW od_mul (d_ix (d_var 0) d_int) (d_ix (d_var 1) d_int)) a_nil)))))
theorem ok_over (T : Txt K mg) : FnD P w K mg base 4 T.f_over T.d_over ["one", "other"] v_over := def_ok (k := 3) T.F_over sc_over fun cdv A outer s H E hr tk hp =>
  (ss_cons (s_expr (d_call (ok_check_numbers T) (hr.mono (by decide)) tk T.g_check_numbers T.F_check_numbers.kp T.b_check_numbers (a_cons (d_tup (a_cons (d_var 0) (a_cons (d_var 1) a_nil))) a_nil)))
  (ss_cons (s_if (dt_cmp (op_eqD hr.units) od_eq (d_ix (d_var 1) d_int) d_int (nomark _))
  (ss_one (s_raise T.x_BadNumber tk))
  ss_nil)
  (ss_one (s_ret (d_call (ok_quotient T) (hr.mono (by decide)) tk T.g_quotient T.F_quotient.kp T.b_quotient (a_cons (d_var 0) (a_cons (d_var 1) a_nil)))))))
theorem ok_order (T : Txt K mg) : FnD P w K mg base 1 T.f_order T.d_order ["one", "other"] v_order := def_ok (k := 0) T.F_order sc_order fun cdv A outer s H E hr tk hp =>
  (ss_cons (s_set 2 sc_order.nd (d_op op_sub od_sub (d_op op_mulW od_mul (d_ix (d_var 0) d_int) (d_ix (d_var 1) d_int)) (d_op op_mulW od_mul (d_ix (d_var 1) d_int) (d_ix (d_var 0) d_int))))
  (ss_one (s_ret (d_if (dt_cmp (op_eqD hr.units) od_eq (d_var 2) d_int (nomark _)) d_int (d_if (dt_cmp op_gt od_gt (d_var 2) d_int (nomark _)) d_int (d_un un_neg ud_neg d_int))))))
theorem ok_compare (T : Txt K mg) : FnD P w K mg base 4 T.f_compare T.d_compare ["one", "other"] v_compare := def_ok (k := 3) T.F_compare sc_compare fun cdv A outer s H E hr tk hp =>
  (ss_cons (s_expr (d_call (ok_check_numbers T) (hr.mono (by decide)) tk T.g_check_numbers T.F_check_numbers.kp T.b_check_numbers (a_cons (d_tup (a_cons (d_var 0) (a_cons (d_var 1) a_nil))) a_nil)))
  (ss_one (s_ret (d_call (ok_order T) (hr.mono (by decide)) tk T.g_order T.F_order.kp T.b_order (a_cons (d_var 0) (a_cons (d_var 1) a_nil))))))
theorem ok_ratio (T : Txt K mg) : FnD P w K mg base 3 T.f_ratio T.d_ratio ["above", "below"] v_ratio := def_ok (k := 2) T.F_ratio sc_ratio fun cdv A outer s H E hr tk hp =>
  (ss_cons (s_if (dt_w (dw_or (dt_not (dt_val (d_call (ok_is_integer T) (hr.mono (by decide)) tk T.g_is_integer T.F_is_integer.kp T.b_is_integer (a_cons (d_var 0) a_nil)))) (dw_or (dt_not (dt_val (d_call (ok_is_integer T) (hr.mono (by decide)) tk T.g_is_integer T.F_is_integer.kp T.b_is_integer (a_cons (d_var 1) a_nil)))) (dw_or1 (dt_cmp (op_eqD hr.units) od_eq (d_var 1) d_int (nomark _))))))
  (ss_one (s_raise T.x_BadNumber tk))
  ss_nil)
  (ss_one (s_ret (d_call (ok_made T) (hr.mono (by decide)) tk T.g_made T.F_made.kp T.b_made (a_cons (d_var 0) (a_cons (d_var 1) a_nil))))))
theorem ok_turned (T : Txt K mg) : FnD P w K mg base 4 T.f_turned T.d_turned ["one"] v_turned := def_ok (k := 3) T.F_turned sc_turned fun cdv A outer s H E hr tk hp =>
  (ss_cons (s_expr (d_call (ok_check_numbers T) (hr.mono (by decide)) tk T.g_check_numbers T.F_check_numbers.kp T.b_check_numbers (a_cons (d_tup (a_cons (d_var 0) a_nil)) a_nil)))
  (ss_one (s_ret (d_tup (a_cons (d_op op_sub od_sub d_int (d_ix (d_var 0) d_int)) (a_cons (d_ix (d_var 0) d_int) a_nil))))))
theorem ok__check_some (T : Txt K mg) : FnD P w K mg base 4 T.f__check_some T.d__check_some ["numbers"] v__check_some := def_ok (k := 3) T.F__check_some sc__check_some fun cdv A outer s H E hr tk hp =>
  (ss_cons (s_if (dt_w (dw_or (dt_not (dt_val (d_isi T.n_isinstance T.n_tuple boot_tuple (d_var 0)))) (dw_or1 (dt_cmp (op_eqD hr.units) od_eq (d_blt cr_len cd_len T.n_len PySem.boot_len (a_cons (d_var 0) a_nil)) d_int (nomark _)))))
  (ss_one (s_raise T.x_BadNumber tk))
  ss_nil)
  (ss_one (s_expr (d_call (ok_check_numbers T) (hr.mono (by decide)) tk T.g_check_numbers T.F_check_numbers.kp T.b_check_numbers (a_cons (d_var 0) a_nil)))))
theorem ok_least_of (T : Txt K mg) : FnD P w K mg base 2 T.f_least_of T.d_least_of ["numbers"] v_least_of := def_ok (k := 1) T.F_least_of sc_least_of fun cdv A outer s H E hr tk hp =>
  (ss_cons (s_set 1 sc_least_of.nd (d_ix (d_var 0) d_int))
  (ss_cons (s_for hp (i_seq (d_slc (d_var 0) (o_some d_int) o_none)) (g_name 2 sc_least_of.nd)
  (ss_one (s_if (dt_cmp (or_lt hr.units0) od_lt (d_call (ok_order T) (hr.mono (by decide)) tk T.g_order T.F_order.kp T.b_order (a_cons (d_var 2) (a_cons (d_var 1) a_nil))) d_int (nomark _))
  (ss_one (s_set 1 sc_least_of.nd (d_var 2)))
  ss_nil)))
  (ss_one (s_ret (d_var 1)))))
theorem ok_least_one (T : Txt K mg) : FnD P w K mg base 5 T.f_least_one T.d_least_one ["numbers"] v_least_one := def_ok (k := 4) T.F_least_one sc_least_one fun cdv A outer s H E hr tk hp =>
  (ss_cons (s_expr (d_call (ok__check_some T) (hr.mono (by decide)) tk T.g__check_some T.F__check_some.kp T.b__check_some (a_cons (d_var 0) a_nil)))
  (ss_one (s_ret (d_call (ok_least_of T) (hr.mono (by decide)) tk T.g_least_of T.F_least_of.kp T.b_least_of (a_cons (d_var 0) a_nil)))))
theorem ok_greatest_of (T : Txt K mg) : FnD P w K mg base 2 T.f_greatest_of T.d_greatest_of ["numbers"] v_greatest_of := def_ok (k := 1) T.F_greatest_of sc_greatest_of fun cdv A outer s H E hr tk hp =>
  (ss_cons (s_set 1 sc_greatest_of.nd (d_ix (d_var 0) d_int))
  (ss_cons (s_for hp (i_seq (d_slc (d_var 0) (o_some d_int) o_none)) (g_name 2 sc_greatest_of.nd)
  (ss_one (s_if (dt_cmp op_gt od_gt (d_call (ok_order T) (hr.mono (by decide)) tk T.g_order T.F_order.kp T.b_order (a_cons (d_var 2) (a_cons (d_var 1) a_nil))) d_int (nomark _))
  (ss_one (s_set 1 sc_greatest_of.nd (d_var 2)))
  ss_nil)))
  (ss_one (s_ret (d_var 1)))))
theorem ok_greatest_one (T : Txt K mg) : FnD P w K mg base 5 T.f_greatest_one T.d_greatest_one ["numbers"] v_greatest_one := def_ok (k := 4) T.F_greatest_one sc_greatest_one fun cdv A outer s H E hr tk hp =>
  (ss_cons (s_expr (d_call (ok__check_some T) (hr.mono (by decide)) tk T.g__check_some T.F__check_some.kp T.b__check_some (a_cons (d_var 0) a_nil)))
  (ss_one (s_ret (d_call (ok_greatest_of T) (hr.mono (by decide)) tk T.g_greatest_of T.F_greatest_of.kp T.b_greatest_of (a_cons (d_var 0) a_nil)))))
theorem ok_text_by (T : Txt K mg) : FnD P w K mg base 1 T.f_text_by T.d_text_by ["one"] v_text_by := def_ok (k := 0) T.F_text_by sc_text_by fun cdv A outer s H E hr tk hp =>
  (ss_one (s_ret (d_if (dt_cmp (op_eqD hr.units) od_eq (d_ix (d_var 0) d_int) d_int (nomark _)) (d_ty call_str_int cd_str T.n_str boot_str (a_cons (d_ix (d_var 0) d_int) a_nil)) (d_op or_add od_add (d_op or_add od_add (d_ty call_str_int cd_str T.n_str boot_str (a_cons (d_ix (d_var 0) d_int) a_nil)) d_str) (d_ty call_str_int cd_str T.n_str boot_str (a_cons (d_ix (d_var 0) d_int) a_nil))))))
theorem ok_number_text (T : Txt K mg) : FnD P w K mg base 4 T.f_number_text T.d_number_text ["one"] v_number_text := def_ok (k := 3) T.F_number_text sc_number_text fun cdv A outer s H E hr tk hp =>
  (ss_cons (s_expr (d_call (ok_check_numbers T) (hr.mono (by decide)) tk T.g_check_numbers T.F_check_numbers.kp T.b_check_numbers (a_cons (d_tup (a_cons (d_var 0) a_nil)) a_nil)))
  (ss_one (s_ret (d_call (ok_text_by T) (hr.mono (by decide)) tk T.g_text_by T.F_text_by.kp T.b_text_by (a_cons (d_var 0) a_nil)))))
theorem ok_integer_of (T : Txt K mg) : FnD P w K mg base 1 T.f_integer_of T.d_integer_of ["word"] v_integer_of := def_ok (k := 0) T.F_integer_of sc_integer_of fun cdv A outer s H E hr tk hp =>
  (ss_cons (s_set 1 sc_integer_of.nd (d_if (dt_cmp (op_eqD hr.units) od_eq (d_slc (d_var 0) o_none (o_some d_int)) d_str (nomark _)) (d_slc (d_var 0) (o_some d_int) o_none) (d_var 0)))
  (ss_cons (s_if (dt_w (dw_or (dt_not (dt_chain op_le od_le op_le od_le d_int (d_blt cr_len cd_len T.n_len PySem.boot_len (a_cons (d_var 1) a_nil)) (d_globI T.c_MOST_FIGURES))) (dw_or1 (dt_not (dt_val (d_bltL (cr_all rfl) ld_all T.n_all (by decide +kernel) (l_new (n_lc (own := [("sign", 2)]) sc_integer_of.nd (j_of (i_seq (d_var 1))) (blkOk_by (own := [("sign", 2)]) (N := N_integer_of) (sc := defScope s_integer_of) (by decide +kernel)) (fun _ _ _ _ _ => (g_name 2 sc_integer_of.nd)) (fun _ _ _ _ _ => ts_nil) (fun _ _ _ _ _ => (d_cmp (or_inG (hu65 hr)) od_inG (d_var 2) (d_globS T.c_FIGURES) (by rfl)))))))))))
  (ss_one (s_ret d_non))
  ss_nil)
  (ss_one (s_ret (d_if (dt_w (dw_or (dt_cmp (op_eqD hr.units) od_eq (d_var 0) d_str (nomark _)) (dw_or1 (dt_cmp (op_neD hr.units) od_ne (d_ix (d_var 1) d_int) d_str (nomark _))))) (d_ty cr_intG cd_intG T.n_int boot_int (a_cons (d_var 0) a_nil)) d_non)))))
theorem ok_read_number (T : Txt K mg) : FnD P w K mg base 3 T.f_read_number T.d_read_number ["text"] v_read_number := def_ok (k := 2) T.F_read_number sc_read_number fun cdv A outer s H E hr tk hp =>
  (ss_cons (s_set 1 sc_read_number.nd (d_new (n_split (d_var 0) d_str)))
  (ss_cons (s_setNG (p_lc (i := 2) (own := [("part", 4)]) sc_read_number.nd (j_of (i_seq (d_var 1))) (blkOk_by (own := [("part", 4)]) (N := N_read_number) (sc := defScope s_read_number) (by decide +kernel)) (fun _ _ _ _ _ => (g_name 4 sc_read_number.nd)) (fun _ _ _ _ _ => ts_nil) (fun _ _ _ _ _ => (d_call (ok_integer_of T) (hr.mono (by decide)) takes0 T.g_integer_of T.F_integer_of.kp T.b_integer_of (a_cons (d_var 4) a_nil)))))
  (ss_cons (s_if (dt_w (dw_or (dt_cmp op_gt od_gt (d_blt cr_len cd_len T.n_len PySem.boot_len (a_cons (d_var 1) a_nil)) d_int (nomark _)) (dw_or1 (dt_cmp (or_inG (hu65 hr)) od_inG d_non (d_var 2) (by rfl)))))
  (ss_one (s_ret d_non))
  ss_nil)
  (ss_cons (s_if (dt_cmp (op_eqD hr.units) od_eq (d_blt cr_len cd_len T.n_len PySem.boot_len (a_cons (d_var 1) a_nil)) d_int (nomark _))
  (ss_one (s_ret (d_tup (a_cons (d_ix (d_var 2) d_int) (a_cons d_int a_nil)))))
  ss_nil)
  (ss_cons (s_set 3 sc_read_number.nd (d_tup (a_cons (d_ix (d_var 2) d_int) (a_cons (d_ix (d_var 2) d_int) a_nil))))
  (ss_one (s_ret (d_if (dt_w (dw_and (dt_val (d_call (ok_is_number T) (hr.mono (by decide)) tk T.g_is_number T.F_is_number.kp T.b_is_number (a_cons (d_var 3) a_nil))) (dw_and1 (dt_cmp op_gt od_gt (d_ix (d_var 3) d_int) d_int (nomark _))))) (d_var 3) d_non))))))))
theorem ok_number_of (T : Txt K mg) : FnD P w K mg base 4 T.f_number_of T.d_number_of ["text"] v_number_of := def_ok (k := 3) T.F_number_of sc_number_of fun cdv A outer s H E hr tk hp =>
  (ss_cons (s_set 1 sc_number_of.nd (d_if (dt_val (d_isi T.n_isinstance T.n_str boot_str (d_var 0))) (d_call (ok_read_number T) (hr.mono (by decide)) tk T.g_read_number T.F_read_number.kp T.b_read_number (a_cons (d_var 0) a_nil)) d_non))
  (ss_cons (s_if (dt_cmp op_isN od_isN (d_var 1) d_non (nomark _))
  (ss_one (s_raise T.x_BadText tk))
  ss_nil)
  (ss_one (s_ret (d_var 1)))))
theorem ok_is_point (T : Txt K mg) : FnD P w K mg base 3 T.f_is_point T.d_is_point ["value"] v_is_point := def_ok (k := 2) T.F_is_point sc_is_point fun cdv A outer s H E hr tk hp =>
  (ss_one (s_ret (d_and (d_isi T.n_isinstance T.n_tuple boot_tuple (d_var 0)) (d_and (d_cmp (op_eqD hr.units) od_eq (d_blt cr_len cd_len T.n_len PySem.boot_len (a_cons (d_var 0) a_nil)) d_int (nomark _)) (d_and (d_call (ok_is_number T) (hr.mono (by decide)) tk T.g_is_number T.F_is_number.kp T.b_is_number (a_cons (d_ix (d_var 0) d_int) a_nil)) (d_one (d_call (ok_is_number T) (hr.mono (by decide)) tk T.g_is_number T.F_is_number.kp T.b_is_number (a_cons (d_ix (d_var 0) d_int) a_nil))))))))
theorem ok_check_points (T : Txt K mg) : FnD P w K mg base 4 T.f_check_points T.d_check_points ["values"] v_check_points := def_ok (k := 3) T.F_check_points sc_check_points fun cdv A outer s H E hr tk hp =>
  (ss_one (s_if (dt_not (dt_val (d_bltL (cr_all rfl) ld_all T.n_all (by decide +kernel) (l_new (n_lc (own := [("value", 1)]) sc_check_points.nd (j_of (i_seq (d_var 0))) (blkOk_by (own := [("value", 1)]) (N := N_check_points) (sc := defScope s_check_points) (by decide +kernel)) (fun _ _ _ _ _ => (g_name 1 sc_check_points.nd)) (fun _ _ _ _ _ => ts_nil) (fun _ _ _ _ _ => (d_call (ok_is_point T) (hr.mono (by decide)) takes0 T.g_is_point T.F_is_point.kp T.b_is_point (a_cons (d_var 1) a_nil))))))))
  (ss_one (s_raise T.x_BadPoint tk))
  ss_nil))
theorem ok_sum_way (T : Txt K mg) : FnD P w K mg base 4 T.f_sum_way T.d_sum_way ["one", "other"] v_sum_way := def_ok (k := 3) T.F_sum_way sc_sum_way fun cdv A outer s H E hr tk hp =>
  (ss_one (s_ret (d_tup (a_cons (d_call (ok_sum_of T) (hr.mono (by decide)) tk T.g_sum_of T.F_sum_of.kp T.b_sum_of (a_cons (d_ix (d_var 0) d_int) (a_cons (d_ix (d_var 1) d_int) a_nil))) (a_cons (d_call (ok_sum_of T) (hr.mono (by decide)) tk T.g_sum_of T.F_sum_of.kp T.b_sum_of (a_cons (d_ix (d_var 0) d_int) (a_cons (d_ix (d_var 1) d_int) a_nil))) a_nil)))))
theorem ok_added (T : Txt K mg) : FnD P w K mg base 5 T.f_added T.d_added ["one", "other"] v_added := def_ok (k := 4) T.F_added sc_added fun cdv A outer s H E hr tk hp =>
  (ss_cons (s_expr (d_call (ok_check_points T) (hr.mono (by decide)) tk T.g_check_points T.F_check_points.kp T.b_check_points (a_cons (d_tup (a_cons (d_var 0) (a_cons (d_var 1) a_nil))) a_nil)))
  (ss_one (s_ret (d_call (ok_sum_way T) (hr.mono (by decide)) tk T.g_sum_way T.F_sum_way.kp T.b_sum_way (a_cons (d_var 0) (a_cons (d_var 1) a_nil))))))
theorem ok_way_between (T : Txt K mg) : FnD P w K mg base 4 T.f_way_between T.d_way_between ["one", "other"] v_way_between := def_ok (k := 3) T.F_way_between sc_way_between fun cdv A outer s H E hr tk hp =>
  (ss_one (s_ret (d_tup (a_cons (d_call (ok_difference T) (hr.mono (by decide)) tk T.g_difference T.F_difference.kp T.b_difference (a_cons (d_ix (d_var 0) d_int) (a_cons (d_ix (d_var 1) d_int) a_nil))) (a_cons (d_call (ok_difference T) (hr.mono (by decide)) tk T.g_difference T.F_difference.kp T.b_difference (a_cons (d_ix (d_var 0) d_int) (a_cons (d_ix (d_var 1) d_int) a_nil))) a_nil)))))
theorem ok_taken (T : Txt K mg) : FnD P w K mg base 5 T.f_taken T.d_taken ["one", "other"] v_taken := def_ok (k := 4) T.F_taken sc_taken fun cdv A outer s H E hr tk hp =>
  (ss_cons (s_expr (d_call (ok_check_points T) (hr.mono (by decide)) tk T.g_check_points T.F_check_points.kp T.b_check_points (a_cons (d_tup (a_cons (d_var 0) (a_cons (d_var 1) a_nil))) a_nil)))
  (ss_one (s_ret (d_call (ok_way_between T) (hr.mono (by decide)) tk T.g_way_between T.F_way_between.kp T.b_way_between (a_cons (d_var 0) (a_cons (d_var 1) a_nil))))))
theorem ok_dot_by (T : Txt K mg) : FnD P w K mg base 4 T.f_dot_by T.d_dot_by ["one", "other"] v_dot_by := def_ok (k := 3) T.F_dot_by sc_dot_by fun cdv A outer s H E hr tk hp =>
  (ss_one (s_ret (d_call (ok_sum_of T) (hr.mono (by decide)) tk T.g_sum_of T.F_sum_of.kp T.b_sum_of (a_cons (d_call (ok_product T) (hr.mono (by decide)) tk T.g_product T.F_product.kp T.b_product (a_cons (d_ix (d_var 0) d_int) (a_cons (d_ix (d_var 1) d_int) a_nil))) (a_cons (d_call (ok_product T) (hr.mono (by decide)) tk T.g_product T.F_product.kp T.b_product (a_cons (d_ix (d_var 0) d_int) (a_cons (d_ix (d_var 1) d_int) a_nil))) a_nil)))))
theorem ok_dot (T : Txt K mg) : FnD P w K mg base 5 T.f_dot T.d_dot ["one", "other"] v_dot := def_ok (k := 4) T.F_dot sc_dot fun cdv A outer s H E hr tk hp =>
  (ss_cons (s_expr (d_call (ok_check_points T) (hr.mono (by decide)) tk T.g_check_points T.F_check_points.kp T.b_check_points (a_cons (d_tup (a_cons (d_var 0) (a_cons (d_var 1) a_nil))) a_nil)))
  (ss_one (s_ret (d_call (ok_dot_by T) (hr.mono (by decide)) tk T.g_dot_by T.F_dot_by.kp T.b_dot_by (a_cons (d_var 0) (a_cons (d_var 1) a_nil))))))
theorem ok_cross_by (T : Txt K mg) : FnD P w K mg base 4 T.f_cross_by T.d_cross_by ["one", "other"] v_cross_by := def_ok (k := 3) T.F_cross_by sc_cross_by fun cdv A outer s H E hr tk hp =>
  (ss_one (s_ret (d_call (ok_difference T) (hr.mono (by decide)) tk T.g_difference T.F_difference.kp T.b_difference (a_cons (d_call (ok_product T) (hr.mono (by decide)) tk T.g_product T.F_product.kp T.b_product (a_cons (d_ix (d_var 0) d_int) (a_cons (d_ix (d_var 1) d_int) a_nil))) (a_cons (d_call (ok_product T) (hr.mono (by decide)) tk T.g_product T.F_product.kp T.b_product (a_cons (d_ix (d_var 0) d_int) (a_cons (d_ix (d_var 1) d_int) a_nil))) a_nil)))))
theorem ok_cross (T : Txt K mg) : FnD P w K mg base 5 T.f_cross T.d_cross ["one", "other"] v_cross := def_ok (k := 4) T.F_cross sc_cross fun cdv A outer s H E hr tk hp =>
  (ss_cons (s_expr (d_call (ok_check_points T) (hr.mono (by decide)) tk T.g_check_points T.F_check_points.kp T.b_check_points (a_cons (d_tup (a_cons (d_var 0) (a_cons (d_var 1) a_nil))) a_nil)))
  (ss_one (s_ret (d_call (ok_cross_by T) (hr.mono (by decide)) tk T.g_cross_by T.F_cross_by.kp T.b_cross_by (a_cons (d_var 0) (a_cons (d_var 1) a_nil))))))
theorem ok_way_times (T : Txt K mg) : FnD P w K mg base 4 T.f_way_times T.d_way_times ["one", "way"] v_way_times := def_ok (k := 3) T.F_way_times sc_way_times fun cdv A outer s H E hr tk hp =>
  (ss_one (s_ret (d_tup (a_cons (d_call (ok_product T) (hr.mono (by decide)) tk T.g_product T.F_product.kp T.b_product (a_cons (d_var 0) (a_cons (d_ix (d_var 1) d_int) a_nil))) (a_cons (d_call (ok_product T) (hr.mono (by decide)) tk T.g_product T.F_product.kp T.b_product (a_cons (d_var 0) (a_cons (d_ix (d_var 1) d_int) a_nil))) a_nil)))))
theorem ok_stretched (T : Txt K mg) : FnD P w K mg base 5 T.f_stretched T.d_stretched ["one", "way"] v_stretched := def_ok (k := 4) T.F_stretched sc_stretched fun cdv A outer s H E hr tk hp =>
  (ss_cons (s_expr (d_call (ok_check_numbers T) (hr.mono (by decide)) tk T.g_check_numbers T.F_check_numbers.kp T.b_check_numbers (a_cons (d_tup (a_cons (d_var 0) a_nil)) a_nil)))
  (ss_cons (s_expr (d_call (ok_check_points T) (hr.mono (by decide)) tk T.g_check_points T.F_check_points.kp T.b_check_points (a_cons (d_tup (a_cons (d_var 1) a_nil)) a_nil)))
  (ss_one (s_ret (d_call (ok_way_times T) (hr.mono (by decide)) tk T.g_way_times T.F_way_times.kp T.b_way_times (a_cons (d_var 0) (a_cons (d_var 1) a_nil)))))))
theorem ok__law_error (T : Txt K mg) : FnD P w K mg base 6 T.f__law_error T.d__law_error ["call", "one", "two"] v__law_error := def_ok (k := 5) T.F__law_error sc__law_error fun cdv A outer s H E hr tk hp =>
  (ss_cons (s_try (wrh := []) ["BadNumber", "BadPoint", "BadText"] tk T.exs (fun W' pn xe tk hp => (ss_one (s_if (dt_cmp (op_eqD hr.units) od_eq (d_var 0) d_int (nomark _))
  (ss_one (s_expr (d_call (ok_plus T) (hr.mono (by decide)) tk T.g_plus T.F_plus.kp T.b_plus (a_cons (d_var 1) (a_cons (d_var 2) a_nil)))))
  (ss_one (s_if (dt_cmp (op_eqD hr.units) od_eq (d_var 0) d_int (nomark _))
  (ss_one (s_expr (d_call (ok_minus T) (hr.mono (by decide)) tk T.g_minus T.F_minus.kp T.b_minus (a_cons (d_var 1) (a_cons (d_var 2) a_nil)))))
  (ss_one (s_if (dt_cmp (op_eqD hr.units) od_eq (d_var 0) d_int (nomark _))
  (ss_one (s_expr (d_call (ok_times T) (hr.mono (by decide)) tk T.g_times T.F_times.kp T.b_times (a_cons (d_var 1) (a_cons (d_var 2) a_nil)))))
  (ss_one (s_if (dt_cmp (op_eqD hr.units) od_eq (d_var 0) d_int (nomark _))
  (ss_one (s_expr (d_call (ok_over T) (hr.mono (by decide)) tk T.g_over T.F_over.kp T.b_over (a_cons (d_var 1) (a_cons (d_var 2) a_nil)))))
  (ss_one (s_if (dt_cmp (op_eqD hr.units) od_eq (d_var 0) d_int (nomark _))
  (ss_one (s_expr (d_call (ok_compare T) (hr.mono (by decide)) tk T.g_compare T.F_compare.kp T.b_compare (a_cons (d_var 1) (a_cons (d_var 2) a_nil)))))
  (ss_one (s_if (dt_cmp (op_eqD hr.units) od_eq (d_var 0) d_int (nomark _))
  (ss_one (s_expr (d_call (ok_ratio T) (hr.mono (by decide)) tk T.g_ratio T.F_ratio.kp T.b_ratio (a_cons (d_var 1) (a_cons (d_var 2) a_nil)))))
  (ss_one (s_if (dt_cmp (op_eqD hr.units) od_eq (d_var 0) d_int (nomark _))
  (ss_one (s_expr (d_call (ok_turned T) (hr.mono (by decide)) tk T.g_turned T.F_turned.kp T.b_turned (a_cons (d_var 1) a_nil))))
  (ss_one (s_if (dt_cmp (op_eqD hr.units) od_eq (d_var 0) d_int (nomark _))
  (ss_one (s_expr (d_call (ok_least_one T) (hr.mono (by decide)) tk T.g_least_one T.F_least_one.kp T.b_least_one (a_cons (d_var 1) a_nil))))
  (ss_one (s_if (dt_cmp (op_eqD hr.units) od_eq (d_var 0) d_int (nomark _))
  (ss_one (s_expr (d_call (ok_greatest_one T) (hr.mono (by decide)) tk T.g_greatest_one T.F_greatest_one.kp T.b_greatest_one (a_cons (d_var 1) a_nil))))
  (ss_one (s_if (dt_cmp (op_eqD hr.units) od_eq (d_var 0) d_int (nomark _))
  (ss_one (s_expr (d_call (ok_number_text T) (hr.mono (by decide)) tk T.g_number_text T.F_number_text.kp T.b_number_text (a_cons (d_var 1) a_nil))))
  (ss_one (s_if (dt_cmp (op_eqD hr.units) od_eq (d_var 0) d_int (nomark _))
  (ss_one (s_expr (d_call (ok_number_of T) (hr.mono (by decide)) tk T.g_number_of T.F_number_of.kp T.b_number_of (a_cons (d_var 1) a_nil))))
  (ss_one (s_if (dt_cmp (op_eqD hr.units) od_eq (d_var 0) d_int (nomark _))
  (ss_one (s_expr (d_call (ok_added T) (hr.mono (by decide)) tk T.g_added T.F_added.kp T.b_added (a_cons (d_var 1) (a_cons (d_var 2) a_nil)))))
  (ss_one (s_if (dt_cmp (op_eqD hr.units) od_eq (d_var 0) d_int (nomark _))
  (ss_one (s_expr (d_call (ok_taken T) (hr.mono (by decide)) tk T.g_taken T.F_taken.kp T.b_taken (a_cons (d_var 1) (a_cons (d_var 2) a_nil)))))
  (ss_one (s_if (dt_cmp (op_eqD hr.units) od_eq (d_var 0) d_int (nomark _))
  (ss_one (s_expr (d_call (ok_dot T) (hr.mono (by decide)) tk T.g_dot T.F_dot.kp T.b_dot (a_cons (d_var 1) (a_cons (d_var 2) a_nil)))))
  (ss_one (s_if (dt_cmp (op_eqD hr.units) od_eq (d_var 0) d_int (nomark _))
  (ss_one (s_expr (d_call (ok_cross T) (hr.mono (by decide)) tk T.g_cross T.F_cross.kp T.b_cross (a_cons (d_var 1) (a_cons (d_var 2) a_nil)))))
  (ss_one (s_expr (d_call (ok_stretched T) (hr.mono (by decide)) tk T.g_stretched T.F_stretched.kp T.b_stretched (a_cons (d_var 1) (a_cons (d_var 2) a_nil)))))))))))))))))))))))))))))))))))) (HsD.cons T.x_BadNumber.gP (fun _ _ _ _ _ _ _ => (ss_one (s_ret d_str))) (HsD.cons T.x_BadPoint.gP (fun _ _ _ _ _ _ _ => (ss_one (s_ret d_str))) (HsD.cons T.x_BadText.gP (fun _ _ _ _ _ _ _ => (ss_one (s_ret d_str))) HsD.nil))))
  (ss_one (s_ret d_str)))
theorem ok__law_refuses (T : Txt K mg) : FnD P w K mg base 7 T.f__law_refuses T.d__law_refuses [] v__law_refuses := def_ok (k := 6) T.F__law_refuses sc__law_refuses fun cdv A outer s H E hr tk hp =>
  (ss_cons (s_unp (d_tup (a_cons (d_tup (a_cons d_int (a_cons d_int a_nil))) (a_cons (d_tup (a_cons (d_tup (a_cons d_int (a_cons d_int a_nil))) (a_cons (d_tup (a_cons d_int (a_cons d_int a_nil))) a_nil))) a_nil))) (g_tup 2 (gs_cons (g_name 0 sc__law_refuses.nd) (gs_cons (g_name 1 sc__law_refuses.nd) gs_nil))))
  (ss_cons (s_for hp (i_seq (d_tup (a_cons d_non (a_cons d_int (a_cons (d_tup (a_cons d_int a_nil)) (a_cons (d_tup (a_cons d_int (a_cons d_int a_nil))) (a_cons (d_tup (a_cons d_int (a_cons d_int a_nil))) (a_cons (d_tup (a_cons d_int (a_cons (d_un un_neg ud_neg d_int) a_nil))) (a_cons (d_tup (a_cons d_bl (a_cons d_int a_nil))) (a_cons (d_tup (a_cons d_int (a_cons d_bl a_nil))) (a_cons (d_new (n_lst (a_cons d_int (a_cons d_int a_nil)))) (a_cons (d_tup (a_cons d_str (a_cons d_int a_nil))) (a_cons (d_tup (a_cons d_int (a_cons d_int a_nil))) a_nil))))))))))))) (g_name 2 sc__law_refuses.nd)
  (ss_cons (s_if (dt_w (dw_or (dt_val (d_call (ok_is_number T) (hr.mono (by decide)) tk T.g_is_number T.F_is_number.kp T.b_is_number (a_cons (d_var 2) a_nil))) (dw_or (dt_cmp (op_neD hr.units) od_ne (d_new (n_lc (own := [("call", 5)]) sc__law_refuses.nd (j_of (i_seq (d_tup (a_cons d_int (a_cons d_int (a_cons d_int (a_cons d_int (a_cons d_int (a_cons d_int (a_cons d_int a_nil)))))))))) (blkOk_by (own := [("call", 5)]) (N := N__law_refuses) (sc := defScope s__law_refuses) (by decide +kernel)) (fun _ _ _ _ _ => (g_name 5 sc__law_refuses.nd)) (fun _ _ _ _ _ => ts_nil) (fun _ _ _ _ _ => (d_call (ok__law_error T) (hr.mono (by decide)) takes0 T.g__law_error T.F__law_error.kp T.b__law_error (a_cons (d_var 5) (a_cons (d_var 2) (a_cons (d_var 0) a_nil))))))) (d_new (n_rep (l_new (n_lst (a_cons d_str a_nil))) d_int)) (nomark _)) (dw_or1 (dt_cmp (op_neD hr.units) od_ne (d_new (n_lc (own := [("call", 5)]) sc__law_refuses.nd (j_of (i_rng1 T.n_range d_int)) (blkOk_by (own := [("call", 5)]) (N := N__law_refuses) (sc := defScope s__law_refuses) (by decide +kernel)) (fun _ _ _ _ _ => (g_name 5 sc__law_refuses.nd)) (fun _ _ _ _ _ => ts_nil) (fun _ _ _ _ _ => (d_call (ok__law_error T) (hr.mono (by decide)) takes0 T.g__law_error T.F__law_error.kp T.b__law_error (a_cons (d_var 5) (a_cons (d_var 0) (a_cons (d_var 2) a_nil))))))) (d_new (n_rep (l_new (n_lst (a_cons d_str a_nil))) d_int)) (nomark _))))))
  (ss_one (s_ret d_bl))
  ss_nil)
  (ss_cons (s_if (dt_w (dw_or (dt_cmp (op_neD hr.units) od_ne (d_new (n_lc (own := [("call", 5)]) sc__law_refuses.nd (j_of (i_seq (d_tup (a_cons d_int (a_cons d_int a_nil))))) (blkOk_by (own := [("call", 5)]) (N := N__law_refuses) (sc := defScope s__law_refuses) (by decide +kernel)) (fun _ _ _ _ _ => (g_name 5 sc__law_refuses.nd)) (fun _ _ _ _ _ => ts_nil) (fun _ _ _ _ _ => (d_call (ok__law_error T) (hr.mono (by decide)) takes0 T.g__law_error T.F__law_error.kp T.b__law_error (a_cons (d_var 5) (a_cons (d_tup (a_cons (d_var 0) (a_cons (d_var 2) a_nil))) (a_cons d_non a_nil))))))) (d_new (n_rep (l_new (n_lst (a_cons d_str a_nil))) d_int)) (nomark _)) (dw_or1 (dt_cmp (op_neD hr.units) od_ne (d_call (ok__law_error T) (hr.mono (by decide)) tk T.g__law_error T.F__law_error.kp T.b__law_error (a_cons d_int (a_cons (d_var 2) (a_cons (d_var 1) a_nil)))) d_str (nomark _)))))
  (ss_one (s_ret d_bl))
  ss_nil)
  (ss_one (s_if (dt_w (dw_or (dt_cmp (op_neD hr.units) od_ne (d_new (n_lc (own := [("call", 5)]) sc__law_refuses.nd (j_of (i_seq (d_tup (a_cons d_int (a_cons d_int (a_cons d_int (a_cons d_int a_nil))))))) (blkOk_by (own := [("call", 5)]) (N := N__law_refuses) (sc := defScope s__law_refuses) (by decide +kernel)) (fun _ _ _ _ _ => (g_name 5 sc__law_refuses.nd)) (fun _ _ _ _ _ => ts_nil) (fun _ _ _ _ _ => (d_call (ok__law_error T) (hr.mono (by decide)) takes0 T.g__law_error T.F__law_error.kp T.b__law_error (a_cons (d_var 5) (a_cons (d_tup (a_cons (d_var 2) (a_cons (d_var 0) a_nil))) (a_cons (d_var 1) a_nil))))))) (d_new (n_rep (l_new (n_lst (a_cons d_str a_nil))) d_int)) (nomark _)) (dw_or1 (dt_cmp (op_neD hr.units) od_ne (d_new (n_slc (l_new (n_lc (own := [("call", 5)]) sc__law_refuses.nd (j_of (i_seq (d_tup (a_cons d_int (a_cons d_int (a_cons d_int (a_cons d_int (a_cons d_int a_nil)))))))) (blkOk_by (own := [("call", 5)]) (N := N__law_refuses) (sc := defScope s__law_refuses) (by decide +kernel)) (fun _ _ _ _ _ => (g_name 5 sc__law_refuses.nd)) (fun _ _ _ _ _ => ts_nil) (fun _ _ _ _ _ => (d_call (ok__law_error T) (hr.mono (by decide)) takes0 T.g__law_error T.F__law_error.kp T.b__law_error (a_cons (d_var 5) (a_cons (d_var 1) (a_cons (d_tup (a_cons (d_var 0) (a_cons (d_var 2) a_nil))) a_nil))))))) o_none (o_some d_int))) (d_new (n_rep (l_new (n_lst (a_cons d_str a_nil))) d_int)) (nomark _)))))
  (ss_one (s_ret d_bl))
  ss_nil)))))
  (ss_cons (s_if (dt_w (dw_or (dt_cmp (op_neD hr.units) od_ne (d_call (ok__law_error T) (hr.mono (by decide)) tk T.g__law_error T.F__law_error.kp T.b__law_error (a_cons d_int (a_cons (d_var 0) (a_cons (d_tup (a_cons (d_var 0) a_nil)) a_nil)))) d_str (nomark _)) (dw_or (dt_cmp (op_neD hr.units) od_ne (d_new (n_lc (own := [("call", 5)]) sc__law_refuses.nd (j_of (i_seq (d_tup (a_cons d_int (a_cons d_int a_nil))))) (blkOk_by (own := [("call", 5)]) (N := N__law_refuses) (sc := defScope s__law_refuses) (by decide +kernel)) (fun _ _ _ _ _ => (g_name 5 sc__law_refuses.nd)) (fun _ _ _ _ _ => ts_nil) (fun _ _ _ _ _ => (d_call (ok__law_error T) (hr.mono (by decide)) takes0 T.g__law_error T.F__law_error.kp T.b__law_error (a_cons (d_var 5) (a_cons (d_tup a_nil) (a_cons d_non a_nil))))))) (d_new (n_rep (l_new (n_lst (a_cons d_str a_nil))) d_int)) (nomark _)) (dw_or1 (dt_cmp (op_neD hr.units) od_ne (d_call (ok__law_error T) (hr.mono (by decide)) tk T.g__law_error T.F__law_error.kp T.b__law_error (a_cons d_int (a_cons (d_var 0) (a_cons (d_tup (a_cons d_int (a_cons d_int a_nil))) a_nil)))) d_str (nomark _))))))
  (ss_one (s_ret d_bl))
  ss_nil)
  (ss_cons (s_if (dt_cmp (op_neD hr.units) od_ne (d_new (n_lc (own := [("one", 3), ("two", 4)]) sc__law_refuses.nd (j_lst (l_new (n_lst (a_cons (d_tup (a_cons d_int (a_cons d_int a_nil))) (a_cons (d_tup (a_cons d_bl (a_cons d_int a_nil))) (a_cons (d_tup (a_cons d_int (a_cons d_non a_nil))) (a_cons (d_tup (a_cons d_str (a_cons d_int a_nil))) a_nil))))))) (blkOk_by (own := [("one", 3), ("two", 4)]) (N := N__law_refuses) (sc := defScope s__law_refuses) (by decide +kernel)) (fun _ _ _ _ _ => (g_tup 2 (gs_cons (g_name 3 sc__law_refuses.nd) (gs_cons (g_name 4 sc__law_refuses.nd) gs_nil)))) (fun _ _ _ _ _ => ts_nil) (fun _ _ _ _ _ => (d_call (ok__law_error T) (hr.mono (by decide)) takes0 T.g__law_error T.F__law_error.kp T.b__law_error (a_cons d_int (a_cons (d_var 3) (a_cons (d_var 4) a_nil))))))) (d_new (n_rep (l_new (n_lst (a_cons d_str a_nil))) d_int)) (nomark _))
  (ss_one (s_ret d_bl))
  ss_nil)
  (ss_one (s_ret (d_cmp (op_eqD hr.units) od_eq (d_new (n_lc (own := [("wrong", 2)]) sc__law_refuses.nd (j_of (i_seq (d_tup (a_cons d_non (a_cons d_int (a_cons d_str (a_cons d_str (a_cons d_str (a_cons d_str (a_cons d_str (a_cons d_str (a_cons d_str (a_cons d_str (a_cons d_str (a_cons d_str (a_cons d_str (a_cons d_str (a_cons d_str (a_cons d_str a_nil))))))))))))))))))) (blkOk_by (own := [("wrong", 2)]) (N := N__law_refuses) (sc := defScope s__law_refuses) (by decide +kernel)) (fun _ _ _ _ _ => (g_name 2 sc__law_refuses.nd)) (fun _ _ _ _ _ => ts_nil) (fun _ _ _ _ _ => (d_call (ok__law_error T) (hr.mono (by decide)) takes0 T.g__law_error T.F__law_error.kp T.b__law_error (a_cons d_int (a_cons (d_var 2) (a_cons d_non a_nil))))))) (d_new (n_rep (l_new (n_lst (a_cons d_str a_nil))) d_int)) (nomark _))))))))
theorem ok__law_is (T : Txt K mg) : FnD P w K mg base 3 T.f__law_is T.d__law_is ["one", "above", "below"] v__law_is := def_ok (k := 2) T.F__law_is sc__law_is fun cdv A outer s H E hr tk hp =>
  (ss_one (s_ret (d_and (d_call (ok_is_number T) (hr.mono (by decide)) tk T.g_is_number T.F_is_number.kp T.b_is_number (a_cons (d_var 0) a_nil)) (d_and (d_cmp (op_eqD hr.units) od_eq (d_op op_mulW od_mul (d_ix (d_var 0) d_int) (d_var 2)) (d_op op_mulW od_mul (d_var 1) (d_ix (d_var 0) d_int)) (nomark _)) (d_one (d_cmp op_gt od_gt (d_ix (d_var 0) d_int) d_int (nomark _)))))))
theorem ok_law (T : Txt K mg) : FnD P w K mg base 8 T.f_law T.d_law ["script"] v_law := def_ok (k := 7) T.F_law sc_law fun cdv A outer s H E hr tk hp =>
  (ss_cons (s_set 1 sc_law.nd (d_call (ok__law_draws T) (hr.mono (by decide)) tk T.g__law_draws T.F__law_draws.kp T.b__law_draws (a_cons (d_var 0) (a_cons d_int a_nil))))
  (ss_cons (s_own 2 sc_law.nd (n_lst a_nil))
  (ss_cons (s_for hp (i_rng1 T.n_range d_int) (g_name 3 sc_law.nd)
  (ss_cons (s_par 4 5 sc_law.nd (a_cons (d_op op_sub od_sub (d_op op_modN od_mod (d_ty cr_intG cd_intG T.n_int boot_int (a_cons (d_ix (d_var 1) (d_var 3)) a_nil)) d_int) d_int) (a_cons (d_op op_sub od_sub (d_op op_modN od_mod (d_ty cr_intG cd_intG T.n_int boot_int (a_cons (d_ix (d_var 1) (d_op or_add od_add d_int (d_var 3))) a_nil)) d_int) d_int) a_nil)))
  (ss_cons (s_if (dt_cmp (op_eqD hr.units) od_eq (d_var 5) d_int (nomark _))
  (ss_one (s_set 5 sc_law.nd (d_op or_add od_add (d_op op_pow od_pow d_int d_int) (d_var 3))))
  ss_nil)
  (ss_cons (s_set 6 sc_law.nd (d_call (ok_ratio T) (hr.mono (by decide)) tk T.g_ratio T.F_ratio.kp T.b_ratio (a_cons (d_var 4) (a_cons (d_var 5) a_nil))))
  (ss_cons (s_if (dt_w (dw_or (dt_not (dt_val (d_call (ok__law_is T) (hr.mono (by decide)) tk T.g__law_is T.F__law_is.kp T.b__law_is (a_cons (d_var 6) (a_cons (d_op op_mulW od_mul (d_var 4) (d_if (dt_cmp op_gt od_gt (d_var 5) d_int (nomark _)) d_int (d_un un_neg ud_neg d_int))) (a_cons (d_blt call_abs cd_abs T.n_abs boot_abs (a_cons (d_var 5) a_nil)) a_nil)))))) (dw_or (dt_cmp (op_neD hr.units) od_ne (d_call (ok_ratio T) (hr.mono (by decide)) tk T.g_ratio T.F_ratio.kp T.b_ratio (a_cons (d_op op_mulW od_mul (d_var 4) d_int) (a_cons (d_op op_mulW od_mul (d_var 5) d_int) a_nil))) (d_var 6) (nomark _)) (dw_or1 (dt_cmp (op_neD hr.units) od_ne (d_call (ok_turned T) (hr.mono (by decide)) tk T.g_turned T.F_turned.kp T.b_turned (a_cons (d_var 6) a_nil)) (d_call (ok_ratio T) (hr.mono (by decide)) tk T.g_ratio T.F_ratio.kp T.b_ratio (a_cons (d_op op_sub od_sub d_int (d_var 4)) (a_cons (d_var 5) a_nil))) (nomark _))))))
  (ss_one (s_ret d_bl))
  ss_nil)
  (ss_cons (s_set 7 sc_law.nd (d_op or_add od_add (d_ty call_str_int cd_str T.n_str boot_str (a_cons (d_ix (d_var 6) d_int) a_nil)) (d_if (dt_cmp op_gt od_gt (d_ix (d_var 6) d_int) d_int (nomark _)) (d_op or_add od_add d_str (d_ty call_str_int cd_str T.n_str boot_str (a_cons (d_ix (d_var 6) d_int) a_nil))) d_str)))
  (ss_cons (s_if (dt_w (dw_or (dt_cmp (op_neD hr.units) od_ne (d_call (ok_number_text T) (hr.mono (by decide)) tk T.g_number_text T.F_number_text.kp T.b_number_text (a_cons (d_var 6) a_nil)) (d_var 7) (nomark _)) (dw_or1 (dt_cmp (op_neD hr.units) od_ne (d_call (ok_number_of T) (hr.mono (by decide)) tk T.g_number_of T.F_number_of.kp T.b_number_of (a_cons (d_var 7) a_nil)) (d_var 6) (nomark _)))))
  (ss_one (s_ret d_bl))
  ss_nil)
  (ss_one (s_app 2 (d_var 6))))))))))
  (ss_cons (s_forOwn 2 hp (g_name 6 sc_law.nd)
  (ss_one (s_for hp (i_seq (d_new (n_slc (l_own 2) o_none (o_some d_int)))) (g_name 8 sc_law.nd)
  (ss_cons (s_if (dt_w (dw_or (dt_not (dt_val (d_call (ok__law_is T) (hr.mono (by decide)) tk T.g__law_is T.F__law_is.kp T.b__law_is (a_cons (d_call (ok_plus T) (hr.mono (by decide)) tk T.g_plus T.F_plus.kp T.b_plus (a_cons (d_var 6) (a_cons (d_var 8) a_nil))) (a_cons (d_op or_add od_add (d_op op_mulW od_mul (d_ix (d_var 6) d_int) (d_ix (d_var 8) d_int)) (d_op op_mulW od_mul (d_ix (d_var 8) d_int) (d_ix (d_var 6) d_int))) (a_cons (d_op op_mulW od_mul (d_ix (d_var 6) d_int) (d_ix (d_var 8) d_int)) a_nil)))))) (dw_or1 (dt_not (dt_val (d_call (ok__law_is T) (hr.mono (by decide)) tk T.g__law_is T.F__law_is.kp T.b__law_is (a_cons (d_call (ok_minus T) (hr.mono (by decide)) tk T.g_minus T.F_minus.kp T.b_minus (a_cons (d_var 6) (a_cons (d_var 8) a_nil))) (a_cons (d_op op_sub od_sub (d_op op_mulW od_mul (d_ix (d_var 6) d_int) (d_ix (d_var 8) d_int)) (d_op op_mulW od_mul (d_ix (d_var 8) d_int) (d_ix (d_var 6) d_int))) (a_cons (d_op op_mulW od_mul (d_ix (d_var 6) d_int) (d_ix (d_var 8) d_int)) a_nil)))))))))
  (ss_one (s_ret d_bl))
  ss_nil)
  (ss_cons (s_if (dt_not (dt_val (d_call (ok__law_is T) (hr.mono (by decide)) tk T.g__law_is T.F__law_is.kp T.b__law_is (a_cons (d_call (ok_times T) (hr.mono (by decide)) tk T.g_times T.F_times.kp T.b_times (a_cons (d_var 6) (a_cons (d_var 8) a_nil))) (a_cons (d_op op_mulW od_mul (d_ix (d_var 6) d_int) (d_ix (d_var 8) d_int)) (a_cons (d_op op_mulW od_mul (d_ix (d_var 6) d_int) (d_ix (d_var 8) d_int)) a_nil))))))
  (ss_one (s_ret d_bl))
  ss_nil)
  (ss_cons (s_if (dt_w (dw_and (dt_cmp (op_neD hr.units) od_ne (d_ix (d_var 8) d_int) d_int (nomark _)) (dw_and1 (dt_cmp (op_neD hr.units) od_ne (d_call (ok_times T) (hr.mono (by decide)) tk T.g_times T.F_times.kp T.b_times (a_cons (d_call (ok_over T) (hr.mono (by decide)) tk T.g_over T.F_over.kp T.b_over (a_cons (d_var 6) (a_cons (d_var 8) a_nil))) (a_cons (d_var 8) a_nil))) (d_var 6) (nomark _)))))
  (ss_one (s_ret d_bl))
  ss_nil)
  (ss_cons (s_set 9 sc_law.nd (d_op op_sub od_sub (d_op op_mulW od_mul (d_ix (d_var 6) d_int) (d_ix (d_var 8) d_int)) (d_op op_mulW od_mul (d_ix (d_var 8) d_int) (d_ix (d_var 6) d_int))))
  (ss_one (s_if (dt_w (dw_or (dt_cmp (op_neD hr.units) od_ne (d_call (ok_compare T) (hr.mono (by decide)) tk T.g_compare T.F_compare.kp T.b_compare (a_cons (d_var 6) (a_cons (d_var 8) a_nil))) (d_if (dt_cmp (op_eqD hr.units) od_eq (d_var 9) d_int (nomark _)) d_int (d_if (dt_cmp op_gt od_gt (d_var 9) d_int (nomark _)) d_int (d_un un_neg ud_neg d_int))) (nomark _)) (dw_or1 (dt_cmp (op_neD hr.units) od_ne (d_cmp (op_eqD hr.units) od_eq (d_var 9) d_int (nomark _)) (d_cmp (op_eqD hr.units) od_eq (d_var 6) (d_var 8) (nomark _)) (nomark _)))))
  (ss_one (s_ret d_bl))
  ss_nil)))))))))
  (ss_cons (s_unp (d_tup (a_cons (d_call (ok_least_one T) (hr.mono (by decide)) tk T.g_least_one T.F_least_one.kp T.b_least_one (a_cons (d_tyL call_tuple_of ld_tup T.n_tuple boot_tuple (l_own 2)) a_nil)) (a_cons (d_call (ok_greatest_one T) (hr.mono (by decide)) tk T.g_greatest_one T.F_greatest_one.kp T.b_greatest_one (a_cons (d_tyL call_tuple_of ld_tup T.n_tuple boot_tuple (l_own 2)) a_nil)) a_nil))) (g_tup 2 (gs_cons (g_name 10 sc_law.nd) (gs_cons (g_name 11 sc_law.nd) gs_nil))))
  (ss_cons (s_if (dt_w (dw_or (dt_notInL (hu65 hr) (d_var 10) (l_own 2)) (dw_or (dt_notInL (hu65 hr) (d_var 11) (l_own 2)) (dw_or1 (dt_val (d_bltL (cr_any rfl) ld_any T.n_any (by decide +kernel) (l_new (n_lc (own := [("one", 6)]) sc_law.nd (j_lst (l_own 2)) (blkOk_by (own := [("one", 6)]) (N := N_law) (sc := defScope s_law) (by decide +kernel)) (fun _ _ _ _ _ => (g_name 6 sc_law.nd)) (fun _ _ _ _ _ => ts_nil) (fun _ _ _ _ _ => (d_or (d_cmp (or_lt hr.units0) od_lt (d_call (ok_compare T) (hr.mono (by decide)) takes0 T.g_compare T.F_compare.kp T.b_compare (a_cons (d_var 6) (a_cons (d_var 10) a_nil))) d_int (nomark _)) (d_one (d_cmp op_gt od_gt (d_call (ok_compare T) (hr.mono (by decide)) takes0 T.g_compare T.F_compare.kp T.b_compare (a_cons (d_var 6) (a_cons (d_var 11) a_nil))) d_int (nomark _)))))))))))))
  (ss_one (s_ret d_bl))
  ss_nil)
  (ss_cons (s_for hp (i_rng1 T.n_range d_int) (g_name 3 sc_law.nd)
  (ss_cons (s_par3 6 8 12 sc_law.nd (a_cons (d_tup (a_cons (d_ixL (l_own 2) (d_var 3)) (a_cons (d_ixL (l_own 2) (d_op or_add od_add (d_var 3) d_int)) a_nil))) (a_cons (d_tup (a_cons (d_ixL (l_own 2) (d_op or_add od_add (d_var 3) d_int)) (a_cons (d_ixL (l_own 2) (d_op or_add od_add (d_var 3) d_int)) a_nil))) (a_cons (d_ixL (l_own 2) (d_op or_add od_add (d_var 3) d_int)) a_nil))))
  (ss_cons (s_if (dt_w (dw_or (dt_cmp (op_neD hr.units) od_ne (d_call (ok_added T) (hr.mono (by decide)) tk T.g_added T.F_added.kp T.b_added (a_cons (d_var 6) (a_cons (d_var 8) a_nil))) (d_tup (a_cons (d_call (ok_plus T) (hr.mono (by decide)) tk T.g_plus T.F_plus.kp T.b_plus (a_cons (d_ix (d_var 6) d_int) (a_cons (d_ix (d_var 8) d_int) a_nil))) (a_cons (d_call (ok_plus T) (hr.mono (by decide)) tk T.g_plus T.F_plus.kp T.b_plus (a_cons (d_ix (d_var 6) d_int) (a_cons (d_ix (d_var 8) d_int) a_nil))) a_nil))) (nomark _)) (dw_or1 (dt_cmp (op_neD hr.units) od_ne (d_call (ok_taken T) (hr.mono (by decide)) tk T.g_taken T.F_taken.kp T.b_taken (a_cons (d_var 6) (a_cons (d_var 8) a_nil))) (d_tup (a_cons (d_call (ok_minus T) (hr.mono (by decide)) tk T.g_minus T.F_minus.kp T.b_minus (a_cons (d_ix (d_var 6) d_int) (a_cons (d_ix (d_var 8) d_int) a_nil))) (a_cons (d_call (ok_minus T) (hr.mono (by decide)) tk T.g_minus T.F_minus.kp T.b_minus (a_cons (d_ix (d_var 6) d_int) (a_cons (d_ix (d_var 8) d_int) a_nil))) a_nil))) (nomark _)))))
  (ss_one (s_ret d_bl))
  ss_nil)
  (ss_cons (s_if (dt_w (dw_or (dt_cmp (op_neD hr.units) od_ne (d_call (ok_stretched T) (hr.mono (by decide)) tk T.g_stretched T.F_stretched.kp T.b_stretched (a_cons (d_var 12) (a_cons (d_var 6) a_nil))) (d_tup (a_cons (d_call (ok_times T) (hr.mono (by decide)) tk T.g_times T.F_times.kp T.b_times (a_cons (d_var 12) (a_cons (d_ix (d_var 6) d_int) a_nil))) (a_cons (d_call (ok_times T) (hr.mono (by decide)) tk T.g_times T.F_times.kp T.b_times (a_cons (d_var 12) (a_cons (d_ix (d_var 6) d_int) a_nil))) a_nil))) (nomark _)) (dw_or1 (dt_cmp (op_neD hr.units) od_ne (d_call (ok_dot T) (hr.mono (by decide)) tk T.g_dot T.F_dot.kp T.b_dot (a_cons (d_var 6) (a_cons (d_var 8) a_nil))) (d_call (ok_plus T) (hr.mono (by decide)) tk T.g_plus T.F_plus.kp T.b_plus (a_cons (d_call (ok_times T) (hr.mono (by decide)) tk T.g_times T.F_times.kp T.b_times (a_cons (d_ix (d_var 6) d_int) (a_cons (d_ix (d_var 8) d_int) a_nil))) (a_cons (d_call (ok_times T) (hr.mono (by decide)) tk T.g_times T.F_times.kp T.b_times (a_cons (d_ix (d_var 6) d_int) (a_cons (d_ix (d_var 8) d_int) a_nil))) a_nil))) (nomark _)))))
  (ss_one (s_ret d_bl))
  ss_nil)
  (ss_one (s_if (dt_w (dw_or (dt_cmp (op_neD hr.units) od_ne (d_call (ok_cross T) (hr.mono (by decide)) tk T.g_cross T.F_cross.kp T.b_cross (a_cons (d_var 6) (a_cons (d_var 8) a_nil))) (d_call (ok_minus T) (hr.mono (by decide)) tk T.g_minus T.F_minus.kp T.b_minus (a_cons (d_call (ok_times T) (hr.mono (by decide)) tk T.g_times T.F_times.kp T.b_times (a_cons (d_ix (d_var 6) d_int) (a_cons (d_ix (d_var 8) d_int) a_nil))) (a_cons (d_call (ok_times T) (hr.mono (by decide)) tk T.g_times T.F_times.kp T.b_times (a_cons (d_ix (d_var 6) d_int) (a_cons (d_ix (d_var 8) d_int) a_nil))) a_nil))) (nomark _)) (dw_or1 (dt_cmp (op_neD hr.units) od_ne (d_call (ok_cross T) (hr.mono (by decide)) tk T.g_cross T.F_cross.kp T.b_cross (a_cons (d_var 6) (a_cons (d_var 6) a_nil))) (d_tup (a_cons d_int (a_cons d_int a_nil))) (nomark _)))))
  (ss_one (s_ret d_bl))
  ss_nil))))))
  (ss_one (s_ret (d_call0 (ok__law_refuses T) (hr.mono (by decide)) tk T.g__law_refuses T.F__law_refuses.kp T.b__law_refuses))))))))))
end
end Wk

namespace Wk
open PySem PySem.Spec PyProof.Rows L2 TD Dn
def spLaw (K : PySem.W.Frag) : Sp := fun vs H Q _ => ∃ (a : Addr) (ns : List Int), vs = [.ref a] ∧ ns.length ≤ 63 ∧ SqL K H a (ns.map V.int) ∧ ∀ H', Q (.bl true) H'
def mkTxt {K : PySem.W.Frag} {h : Heap} {mg : Str → Option Value} (X : K.In h) (G : h.Ns mainGlobals mg)
  {t_FIGURES : Tok}
  {t_MOST_FIGURES : Tok}
  {C_BadNumber : Addr}
  {C_BadPoint : Addr}
  {C_BadText : Addr}
  {f__law_draws : Addr} {od__law_draws an__law_draws : Option Addr} {sl__law_draws : Array (Option Value)} {oc__law_draws kV__law_draws dc__law_draws pm__law_draws cd__law_draws ct__law_draws : Value}
  {f_is_integer : Addr} {od_is_integer an_is_integer : Option Addr} {sl_is_integer : Array (Option Value)} {oc_is_integer kV_is_integer dc_is_integer pm_is_integer cd_is_integer ct_is_integer : Value}
  {f_divisor : Addr} {od_divisor an_divisor : Option Addr} {sl_divisor : Array (Option Value)} {oc_divisor kV_divisor dc_divisor pm_divisor cd_divisor ct_divisor : Value}
  {f_is_number : Addr} {od_is_number an_is_number : Option Addr} {sl_is_number : Array (Option Value)} {oc_is_number kV_is_number dc_is_number pm_is_number cd_is_number ct_is_number : Value}
  {f_check_numbers : Addr} {od_check_numbers an_check_numbers : Option Addr} {sl_check_numbers : Array (Option Value)} {oc_check_numbers kV_check_numbers dc_check_numbers pm_check_numbers cd_check_numbers ct_check_numbers : Value}
  {f_made : Addr} {od_made an_made : Option Addr} {sl_made : Array (Option Value)} {oc_made kV_made dc_made pm_made cd_made ct_made : Value}
  {f_sum_of : Addr} {od_sum_of an_sum_of : Option Addr} {sl_sum_of : Array (Option Value)} {oc_sum_of kV_sum_of dc_sum_of pm_sum_of cd_sum_of ct_sum_of : Value}
  {f_plus : Addr} {od_plus an_plus : Option Addr} {sl_plus : Array (Option Value)} {oc_plus kV_plus dc_plus pm_plus cd_plus ct_plus : Value}
  {f_difference : Addr} {od_difference an_difference : Option Addr} {sl_difference : Array (Option Value)} {oc_difference kV_difference dc_difference pm_difference cd_difference ct_difference : Value}
  {f_minus : Addr} {od_minus an_minus : Option Addr} {sl_minus : Array (Option Value)} {oc_minus kV_minus dc_minus pm_minus cd_minus ct_minus : Value}
  {f_product : Addr} {od_product an_product : Option Addr} {sl_product : Array (Option Value)} {oc_product kV_product dc_product pm_product cd_product ct_product : Value}
  {f_times : Addr} {od_times an_times : Option Addr} {sl_times : Array (Option Value)} {oc_times kV_times dc_times pm_times cd_times ct_times : Value}
  {f_quotient : Addr} {od_quotient an_quotient : Option Addr} {sl_quotient : Array (Option Value)} {oc_quotient kV_quotient dc_quotient pm_quotient cd_quotient ct_quotient : Value}
  {f_over : Addr} {od_over an_over : Option Addr} {sl_over : Array (Option Value)} {oc_over kV_over dc_over pm_over cd_over ct_over : Value}
  {f_order : Addr} {od_order an_order : Option Addr} {sl_order : Array (Option Value)} {oc_order kV_order dc_order pm_order cd_order ct_order : Value}
  {f_compare : Addr} {od_compare an_compare : Option Addr} {sl_compare : Array (Option Value)} {oc_compare kV_compare dc_compare pm_compare cd_compare ct_compare : Value}
  {f_ratio : Addr} {od_ratio an_ratio : Option Addr} {sl_ratio : Array (Option Value)} {oc_ratio kV_ratio dc_ratio pm_ratio cd_ratio ct_ratio : Value}
  {f_turned : Addr} {od_turned an_turned : Option Addr} {sl_turned : Array (Option Value)} {oc_turned kV_turned dc_turned pm_turned cd_turned ct_turned : Value}
  {f__check_some : Addr} {od__check_some an__check_some : Option Addr} {sl__check_some : Array (Option Value)} {oc__check_some kV__check_some dc__check_some pm__check_some cd__check_some ct__check_some : Value}
  {f_least_of : Addr} {od_least_of an_least_of : Option Addr} {sl_least_of : Array (Option Value)} {oc_least_of kV_least_of dc_least_of pm_least_of cd_least_of ct_least_of : Value}
  {f_least_one : Addr} {od_least_one an_least_one : Option Addr} {sl_least_one : Array (Option Value)} {oc_least_one kV_least_one dc_least_one pm_least_one cd_least_one ct_least_one : Value}
  {f_greatest_of : Addr} {od_greatest_of an_greatest_of : Option Addr} {sl_greatest_of : Array (Option Value)} {oc_greatest_of kV_greatest_of dc_greatest_of pm_greatest_of cd_greatest_of ct_greatest_of : Value}
  {f_greatest_one : Addr} {od_greatest_one an_greatest_one : Option Addr} {sl_greatest_one : Array (Option Value)} {oc_greatest_one kV_greatest_one dc_greatest_one pm_greatest_one cd_greatest_one ct_greatest_one : Value}
  {f_text_by : Addr} {od_text_by an_text_by : Option Addr} {sl_text_by : Array (Option Value)} {oc_text_by kV_text_by dc_text_by pm_text_by cd_text_by ct_text_by : Value}
  {f_number_text : Addr} {od_number_text an_number_text : Option Addr} {sl_number_text : Array (Option Value)} {oc_number_text kV_number_text dc_number_text pm_number_text cd_number_text ct_number_text : Value}
  {f_integer_of : Addr} {od_integer_of an_integer_of : Option Addr} {sl_integer_of : Array (Option Value)} {oc_integer_of kV_integer_of dc_integer_of pm_integer_of cd_integer_of ct_integer_of : Value}
  {f_read_number : Addr} {od_read_number an_read_number : Option Addr} {sl_read_number : Array (Option Value)} {oc_read_number kV_read_number dc_read_number pm_read_number cd_read_number ct_read_number : Value}
  {f_number_of : Addr} {od_number_of an_number_of : Option Addr} {sl_number_of : Array (Option Value)} {oc_number_of kV_number_of dc_number_of pm_number_of cd_number_of ct_number_of : Value}
  {f_is_point : Addr} {od_is_point an_is_point : Option Addr} {sl_is_point : Array (Option Value)} {oc_is_point kV_is_point dc_is_point pm_is_point cd_is_point ct_is_point : Value}
  {f_check_points : Addr} {od_check_points an_check_points : Option Addr} {sl_check_points : Array (Option Value)} {oc_check_points kV_check_points dc_check_points pm_check_points cd_check_points ct_check_points : Value}
  {f_sum_way : Addr} {od_sum_way an_sum_way : Option Addr} {sl_sum_way : Array (Option Value)} {oc_sum_way kV_sum_way dc_sum_way pm_sum_way cd_sum_way ct_sum_way : Value}
  {f_added : Addr} {od_added an_added : Option Addr} {sl_added : Array (Option Value)} {oc_added kV_added dc_added pm_added cd_added ct_added : Value}
  {f_way_between : Addr} {od_way_between an_way_between : Option Addr} {sl_way_between : Array (Option Value)} {oc_way_between kV_way_between dc_way_between pm_way_between cd_way_between ct_way_between : Value}
  {f_taken : Addr} {od_taken an_taken : Option Addr} {sl_taken : Array (Option Value)} {oc_taken kV_taken dc_taken pm_taken cd_taken ct_taken : Value}
  {f_dot_by : Addr} {od_dot_by an_dot_by : Option Addr} {sl_dot_by : Array (Option Value)} {oc_dot_by kV_dot_by dc_dot_by pm_dot_by cd_dot_by ct_dot_by : Value}
  {f_dot : Addr} {od_dot an_dot : Option Addr} {sl_dot : Array (Option Value)} {oc_dot kV_dot dc_dot pm_dot cd_dot ct_dot : Value}
  {f_cross_by : Addr} {od_cross_by an_cross_by : Option Addr} {sl_cross_by : Array (Option Value)} {oc_cross_by kV_cross_by dc_cross_by pm_cross_by cd_cross_by ct_cross_by : Value}
  {f_cross : Addr} {od_cross an_cross : Option Addr} {sl_cross : Array (Option Value)} {oc_cross kV_cross dc_cross pm_cross cd_cross ct_cross : Value}
  {f_way_times : Addr} {od_way_times an_way_times : Option Addr} {sl_way_times : Array (Option Value)} {oc_way_times kV_way_times dc_way_times pm_way_times cd_way_times ct_way_times : Value}
  {f_stretched : Addr} {od_stretched an_stretched : Option Addr} {sl_stretched : Array (Option Value)} {oc_stretched kV_stretched dc_stretched pm_stretched cd_stretched ct_stretched : Value}
  {f__law_error : Addr} {od__law_error an__law_error : Option Addr} {sl__law_error : Array (Option Value)} {oc__law_error kV__law_error dc__law_error pm__law_error cd__law_error ct__law_error : Value}
  {f__law_refuses : Addr} {od__law_refuses an__law_refuses : Option Addr} {sl__law_refuses : Array (Option Value)} {oc__law_refuses kV__law_refuses dc__law_refuses pm__law_refuses cd__law_refuses ct__law_refuses : Value}
  {f__law_is : Addr} {od__law_is an__law_is : Option Addr} {sl__law_is : Array (Option Value)} {oc__law_is kV__law_is dc__law_is pm__law_is cd__law_is ct__law_is : Value}
  {f_law : Addr} {od_law an_law : Option Addr} {sl_law : Array (Option Value)} {oc_law kV_law dc_law pm_law cd_law ct_law : Value}
  (z_abs : PySem.W.nsIn K mainGlobals "abs" = some none)
  (z_all : PySem.W.nsIn K mainGlobals "all" = some none)
  (z_any : PySem.W.nsIn K mainGlobals "any" = some none)
  (z_bool : PySem.W.nsIn K mainGlobals "bool" = some none)
  (z_int : PySem.W.nsIn K mainGlobals "int" = some none)
  (z_isinstance : PySem.W.nsIn K mainGlobals "isinstance" = some none)
  (z_len : PySem.W.nsIn K mainGlobals "len" = some none)
  (z_range : PySem.W.nsIn K mainGlobals "range" = some none)
  (z_str : PySem.W.nsIn K mainGlobals "str" = some none)
  (z_tuple : PySem.W.nsIn K mainGlobals "tuple" = some none)
  (k_FIGURES : PySem.W.nsIn K mainGlobals "FIGURES" = some (some (.str "0123456789" t_FIGURES)))
  (k_MOST_FIGURES : PySem.W.nsIn K mainGlobals "MOST_FIGURES" = some (some (.int 300 t_MOST_FIGURES)))
  (xa_BadNumber : PySem.W.nsIn K mainGlobals "BadNumber" = some (some (.ref C_BadNumber))) (xe_BadNumber : PySem.W.excIn K C_BadNumber [.type "ValueError", .type "Exception", .type "BaseException", .type "object"] "ValueError.__new__" = true) (xk_BadNumber : PySem.W.keepIn K (.ref C_BadNumber) = true) (xb_BadNumber : PySem.W.subIn K (.ref C_BadNumber) (.type "BaseException") = some true) (xt_BadNumber : PySem.W.typeIn K (.ref C_BadNumber) = some (.type "type")) (xd_BadNumber : PySem.W.hasDictIn K C_BadNumber = true)
  (xa_BadPoint : PySem.W.nsIn K mainGlobals "BadPoint" = some (some (.ref C_BadPoint))) (xe_BadPoint : PySem.W.excIn K C_BadPoint [.type "ValueError", .type "Exception", .type "BaseException", .type "object"] "ValueError.__new__" = true) (xk_BadPoint : PySem.W.keepIn K (.ref C_BadPoint) = true) (xb_BadPoint : PySem.W.subIn K (.ref C_BadPoint) (.type "BaseException") = some true) (xt_BadPoint : PySem.W.typeIn K (.ref C_BadPoint) = some (.type "type")) (xd_BadPoint : PySem.W.hasDictIn K C_BadPoint = true)
  (xa_BadText : PySem.W.nsIn K mainGlobals "BadText" = some (some (.ref C_BadText))) (xe_BadText : PySem.W.excIn K C_BadText [.type "ValueError", .type "Exception", .type "BaseException", .type "object"] "ValueError.__new__" = true) (xk_BadText : PySem.W.keepIn K (.ref C_BadText) = true) (xb_BadText : PySem.W.subIn K (.ref C_BadText) (.type "BaseException") = some true) (xt_BadText : PySem.W.typeIn K (.ref C_BadText) = some (.type "type")) (xd_BadText : PySem.W.hasDictIn K C_BadText = true)
  (s_BadNumber_BadNumber : PySem.W.subIn K (.ref C_BadNumber) (.ref C_BadNumber) = some true)
  (s_BadNumber_BadPoint : PySem.W.subIn K (.ref C_BadNumber) (.ref C_BadPoint) = some false)
  (s_BadNumber_BadText : PySem.W.subIn K (.ref C_BadNumber) (.ref C_BadText) = some false)
  (s_BadPoint_BadNumber : PySem.W.subIn K (.ref C_BadPoint) (.ref C_BadNumber) = some false)
  (s_BadPoint_BadPoint : PySem.W.subIn K (.ref C_BadPoint) (.ref C_BadPoint) = some true)
  (s_BadPoint_BadText : PySem.W.subIn K (.ref C_BadPoint) (.ref C_BadText) = some false)
  (s_BadText_BadNumber : PySem.W.subIn K (.ref C_BadText) (.ref C_BadNumber) = some false)
  (s_BadText_BadPoint : PySem.W.subIn K (.ref C_BadText) (.ref C_BadPoint) = some false)
  (s_BadText_BadText : PySem.W.subIn K (.ref C_BadText) (.ref C_BadText) = some true)
  (a__law_draws : PySem.W.nsIn K mainGlobals "_law_draws" = some (some (.ref f__law_draws))) (l__law_draws : K.lookup f__law_draws = some ⟨oc__law_draws, od__law_draws, .func (PySem.W.fnOf "_law_draws" "_law_draws" (defArgs s__law_draws) (defBody s__law_draws) (defScope s__law_draws) .none kV__law_draws dc__law_draws pm__law_draws an__law_draws cd__law_draws ct__law_draws), sl__law_draws⟩) (c__law_draws : PySem.W.codeIn K cd__law_draws "_law_draws" = true) (k__law_draws : PySem.W.keepIn K (.ref f__law_draws) = true)
  (a_is_integer : PySem.W.nsIn K mainGlobals "is_integer" = some (some (.ref f_is_integer))) (l_is_integer : K.lookup f_is_integer = some ⟨oc_is_integer, od_is_integer, .func (PySem.W.fnOf "is_integer" "is_integer" (defArgs s_is_integer) (defBody s_is_integer) (defScope s_is_integer) .none kV_is_integer dc_is_integer pm_is_integer an_is_integer cd_is_integer ct_is_integer), sl_is_integer⟩) (c_is_integer : PySem.W.codeIn K cd_is_integer "is_integer" = true) (k_is_integer : PySem.W.keepIn K (.ref f_is_integer) = true)
  (a_divisor : PySem.W.nsIn K mainGlobals "divisor" = some (some (.ref f_divisor))) (l_divisor : K.lookup f_divisor = some ⟨oc_divisor, od_divisor, .func (PySem.W.fnOf "divisor" "divisor" (defArgs s_divisor) (defBody s_divisor) (defScope s_divisor) .none kV_divisor dc_divisor pm_divisor an_divisor cd_divisor ct_divisor), sl_divisor⟩) (c_divisor : PySem.W.codeIn K cd_divisor "divisor" = true) (k_divisor : PySem.W.keepIn K (.ref f_divisor) = true)
  (a_is_number : PySem.W.nsIn K mainGlobals "is_number" = some (some (.ref f_is_number))) (l_is_number : K.lookup f_is_number = some ⟨oc_is_number, od_is_number, .func (PySem.W.fnOf "is_number" "is_number" (defArgs s_is_number) (defBody s_is_number) (defScope s_is_number) .none kV_is_number dc_is_number pm_is_number an_is_number cd_is_number ct_is_number), sl_is_number⟩) (c_is_number : PySem.W.codeIn K cd_is_number "is_number" = true) (k_is_number : PySem.W.keepIn K (.ref f_is_number) = true)
  (a_check_numbers : PySem.W.nsIn K mainGlobals "check_numbers" = some (some (.ref f_check_numbers))) (l_check_numbers : K.lookup f_check_numbers = some ⟨oc_check_numbers, od_check_numbers, .func (PySem.W.fnOf "check_numbers" "check_numbers" (defArgs s_check_numbers) (defBody s_check_numbers) (defScope s_check_numbers) .none kV_check_numbers dc_check_numbers pm_check_numbers an_check_numbers cd_check_numbers ct_check_numbers), sl_check_numbers⟩) (c_check_numbers : PySem.W.codeIn K cd_check_numbers "check_numbers" = true) (k_check_numbers : PySem.W.keepIn K (.ref f_check_numbers) = true)
  (a_made : PySem.W.nsIn K mainGlobals "made" = some (some (.ref f_made))) (l_made : K.lookup f_made = some ⟨oc_made, od_made, .func (PySem.W.fnOf "made" "made" (defArgs s_made) (defBody s_made) (defScope s_made) .none kV_made dc_made pm_made an_made cd_made ct_made), sl_made⟩) (c_made : PySem.W.codeIn K cd_made "made" = true) (k_made : PySem.W.keepIn K (.ref f_made) = true)
  (a_sum_of : PySem.W.nsIn K mainGlobals "sum_of" = some (some (.ref f_sum_of))) (l_sum_of : K.lookup f_sum_of = some ⟨oc_sum_of, od_sum_of, .func (PySem.W.fnOf "sum_of" "sum_of" (defArgs s_sum_of) (defBody s_sum_of) (defScope s_sum_of) .none kV_sum_of dc_sum_of pm_sum_of an_sum_of cd_sum_of ct_sum_of), sl_sum_of⟩) (c_sum_of : PySem.W.codeIn K cd_sum_of "sum_of" = true) (k_sum_of : PySem.W.keepIn K (.ref f_sum_of) = true)
  (a_plus : PySem.W.nsIn K mainGlobals "plus" = some (some (.ref f_plus))) (l_plus : K.lookup f_plus = some ⟨oc_plus, od_plus, .func (PySem.W.fnOf "plus" "plus" (defArgs s_plus) (defBody s_plus) (defScope s_plus) .none kV_plus dc_plus pm_plus an_plus cd_plus ct_plus), sl_plus⟩) (c_plus : PySem.W.codeIn K cd_plus "plus" = true) (k_plus : PySem.W.keepIn K (.ref f_plus) = true)
  (a_difference : PySem.W.nsIn K mainGlobals "difference" = some (some (.ref f_difference))) (l_difference : K.lookup f_difference = some ⟨oc_difference, od_difference, .func (PySem.W.fnOf "difference" "difference" (defArgs s_difference) (defBody s_difference) (defScope s_difference) .none kV_difference dc_difference pm_difference an_difference cd_difference ct_difference), sl_difference⟩) (c_difference : PySem.W.codeIn K cd_difference "difference" = true) (k_difference : PySem.W.keepIn K (.ref f_difference) = true)
  (a_minus : PySem.W.nsIn K mainGlobals "minus" = some (some (.ref f_minus))) (l_minus : K.lookup f_minus = some ⟨oc_minus, od_minus, .func (PySem.W.fnOf "minus" "minus" (defArgs s_minus) (defBody s_minus) (defScope s_minus) .none kV_minus dc_minus pm_minus an_minus cd_minus ct_minus), sl_minus⟩) (c_minus : PySem.W.codeIn K cd_minus "minus" = true) (k_minus : PySem.W.keepIn K (.ref f_minus) = true)
  (a_product : PySem.W.nsIn K mainGlobals "product" = some (some (.ref f_product))) (l_product : K.lookup f_product = some ⟨oc_product, od_product, .func (PySem.W.fnOf "product" "product" (defArgs s_product) (defBody s_product) (defScope s_product) .none kV_product dc_product pm_product an_product cd_product ct_product), sl_product⟩) (c_product : PySem.W.codeIn K cd_product "product" = true) (k_product : PySem.W.keepIn K (.ref f_product) = true)
  (a_times : PySem.W.nsIn K mainGlobals "times" = some (some (.ref f_times))) (l_times : K.lookup f_times = some ⟨oc_times, od_times, .func (PySem.W.fnOf "times" "times" (defArgs s_times) (defBody s_times) (defScope s_times) .none kV_times dc_times pm_times an_times cd_times ct_times), sl_times⟩) (c_times : PySem.W.codeIn K cd_times "times" = true) (k_times : PySem.W.keepIn K (.ref f_times) = true)
  (a_quotient : PySem.W.nsIn K mainGlobals "quotient" = some (some (.ref f_quotient))) (l_quotient : K.lookup f_quotient = some ⟨oc_quotient, od_quotient, .func (PySem.W.fnOf "quotient" "quotient" (defArgs s_quotient) (defBody s_quotient) (defScope s_quotient) .none kV_quotient dc_quotient pm_quotient an_quotient cd_quotient ct_quotient), sl_quotient⟩) (c_quotient : PySem.W.codeIn K cd_quotient "quotient" = true) (k_quotient : PySem.W.keepIn K (.ref f_quotient) = true)
  (a_over : PySem.W.nsIn K mainGlobals "over" = some (some (.ref f_over))) (l_over : K.lookup f_over = some ⟨oc_over, od_over, .func (PySem.W.fnOf "over" "over" (defArgs s_over) (defBody s_over) (defScope s_over) .none kV_over dc_over pm_over an_over cd_over ct_over), sl_over⟩) (c_over : PySem.W.codeIn K cd_over "over" = true) (k_over : PySem.W.keepIn K (.ref f_over) = true)
  (a_order : PySem.W.nsIn K mainGlobals "order" = some (some (.ref f_order))) (l_order : K.lookup f_order = some ⟨oc_order, od_order, .func (PySem.W.fnOf "order" "order" (defArgs s_order) (defBody s_order) (defScope s_order) .none kV_order dc_order pm_order an_order cd_order ct_order), sl_order⟩) (c_order : PySem.W.codeIn K cd_order "order" = true) (k_order : PySem.W.keepIn K (.ref f_order) = true)
  (a_compare : PySem.W.nsIn K mainGlobals "compare" = some (some (.ref f_compare))) (l_compare : K.lookup f_compare = some ⟨oc_compare, od_compare, .func (PySem.W.fnOf "compare" "compare" (defArgs s_compare) (defBody s_compare) (defScope s_compare) .none kV_compare dc_compare pm_compare an_compare cd_compare ct_compare), sl_compare⟩) (c_compare : PySem.W.codeIn K cd_compare "compare" = true) (k_compare : PySem.W.keepIn K (.ref f_compare) = true)
  (a_ratio : PySem.W.nsIn K mainGlobals "ratio" = some (some (.ref f_ratio))) (l_ratio : K.lookup f_ratio = some ⟨oc_ratio, od_ratio, .func (PySem.W.fnOf "ratio" "ratio" (defArgs s_ratio) (defBody s_ratio) (defScope s_ratio) .none kV_ratio dc_ratio pm_ratio an_ratio cd_ratio ct_ratio), sl_ratio⟩) (c_ratio : PySem.W.codeIn K cd_ratio "ratio" = true) (k_ratio : PySem.W.keepIn K (.ref f_ratio) = true)
  (a_turned : PySem.W.nsIn K mainGlobals "turned" = some (some (.ref f_turned))) (l_turned : K.lookup f_turned = some ⟨oc_turned, od_turned, .func (PySem.W.fnOf "turned" "turned" (defArgs s_turned) (defBody s_turned) (defScope s_turned) .none kV_turned dc_turned pm_turned an_turned cd_turned ct_turned), sl_turned⟩) (c_turned : PySem.W.codeIn K cd_turned "turned" = true) (k_turned : PySem.W.keepIn K (.ref f_turned) = true)
  (a__check_some : PySem.W.nsIn K mainGlobals "_check_some" = some (some (.ref f__check_some))) (l__check_some : K.lookup f__check_some = some ⟨oc__check_some, od__check_some, .func (PySem.W.fnOf "_check_some" "_check_some" (defArgs s__check_some) (defBody s__check_some) (defScope s__check_some) .none kV__check_some dc__check_some pm__check_some an__check_some cd__check_some ct__check_some), sl__check_some⟩) (c__check_some : PySem.W.codeIn K cd__check_some "_check_some" = true) (k__check_some : PySem.W.keepIn K (.ref f__check_some) = true)
  (a_least_of : PySem.W.nsIn K mainGlobals "least_of" = some (some (.ref f_least_of))) (l_least_of : K.lookup f_least_of = some ⟨oc_least_of, od_least_of, .func (PySem.W.fnOf "least_of" "least_of" (defArgs s_least_of) (defBody s_least_of) (defScope s_least_of) .none kV_least_of dc_least_of pm_least_of an_least_of cd_least_of ct_least_of), sl_least_of⟩) (c_least_of : PySem.W.codeIn K cd_least_of "least_of" = true) (k_least_of : PySem.W.keepIn K (.ref f_least_of) = true)
  (a_least_one : PySem.W.nsIn K mainGlobals "least_one" = some (some (.ref f_least_one))) (l_least_one : K.lookup f_least_one = some ⟨oc_least_one, od_least_one, .func (PySem.W.fnOf "least_one" "least_one" (defArgs s_least_one) (defBody s_least_one) (defScope s_least_one) .none kV_least_one dc_least_one pm_least_one an_least_one cd_least_one ct_least_one), sl_least_one⟩) (c_least_one : PySem.W.codeIn K cd_least_one "least_one" = true) (k_least_one : PySem.W.keepIn K (.ref f_least_one) = true)
  (a_greatest_of : PySem.W.nsIn K mainGlobals "greatest_of" = some (some (.ref f_greatest_of))) (l_greatest_of : K.lookup f_greatest_of = some ⟨oc_greatest_of, od_greatest_of, .func (PySem.W.fnOf "greatest_of" "greatest_of" (defArgs s_greatest_of) (defBody s_greatest_of) (defScope s_greatest_of) .none kV_greatest_of dc_greatest_of pm_greatest_of an_greatest_of cd_greatest_of ct_greatest_of), sl_greatest_of⟩) (c_greatest_of : PySem.W.codeIn K cd_greatest_of "greatest_of" = true) (k_greatest_of : PySem.W.keepIn K (.ref f_greatest_of) = true)
  (a_greatest_one : PySem.W.nsIn K mainGlobals "greatest_one" = some (some (.ref f_greatest_one))) (l_greatest_one : K.lookup f_greatest_one = some ⟨oc_greatest_one, od_greatest_one, .func (PySem.W.fnOf "greatest_one" "greatest_one" (defArgs s_greatest_one) (defBody s_greatest_one) (defScope s_greatest_one) .none kV_greatest_one dc_greatest_one pm_greatest_one an_greatest_one cd_greatest_one ct_greatest_one), sl_greatest_one⟩) (c_greatest_one : PySem.W.codeIn K cd_greatest_one "greatest_one" = true) (k_greatest_one : PySem.W.keepIn K (.ref f_greatest_one) = true)
  (a_text_by : PySem.W.nsIn K mainGlobals "text_by" = some (some (.ref f_text_by))) (l_text_by : K.lookup f_text_by = some ⟨oc_text_by, od_text_by, .func (PySem.W.fnOf "text_by" "text_by" (defArgs s_text_by) (defBody s_text_by) (defScope s_text_by) .none kV_text_by dc_text_by pm_text_by an_text_by cd_text_by ct_text_by), sl_text_by⟩) (c_text_by : PySem.W.codeIn K cd_text_by "text_by" = true) (k_text_by : PySem.W.keepIn K (.ref f_text_by) = true)
  (a_number_text : PySem.W.nsIn K mainGlobals "number_text" = some (some (.ref f_number_text))) (l_number_text : K.lookup f_number_text = some ⟨oc_number_text, od_number_text, .func (PySem.W.fnOf "number_text" "number_text" (defArgs s_number_text) (defBody s_number_text) (defScope s_number_text) .none kV_number_text dc_number_text pm_number_text an_number_text cd_number_text ct_number_text), sl_number_text⟩) (c_number_text : PySem.W.codeIn K cd_number_text "number_text" = true) (k_number_text : PySem.W.keepIn K (.ref f_number_text) = true)
  (a_integer_of : PySem.W.nsIn K mainGlobals "integer_of" = some (some (.ref f_integer_of))) (l_integer_of : K.lookup f_integer_of = some ⟨oc_integer_of, od_integer_of, .func (PySem.W.fnOf "integer_of" "integer_of" (defArgs s_integer_of) (defBody s_integer_of) (defScope s_integer_of) .none kV_integer_of dc_integer_of pm_integer_of an_integer_of cd_integer_of ct_integer_of), sl_integer_of⟩) (c_integer_of : PySem.W.codeIn K cd_integer_of "integer_of" = true) (k_integer_of : PySem.W.keepIn K (.ref f_integer_of) = true)
  (a_read_number : PySem.W.nsIn K mainGlobals "read_number" = some (some (.ref f_read_number))) (l_read_number : K.lookup f_read_number = some ⟨oc_read_number, od_read_number, .func (PySem.W.fnOf "read_number" "read_number" (defArgs s_read_number) (defBody s_read_number) (defScope s_read_number) .none kV_read_number dc_read_number pm_read_number an_read_number cd_read_number ct_read_number), sl_read_number⟩) (c_read_number : PySem.W.codeIn K cd_read_number "read_number" = true) (k_read_number : PySem.W.keepIn K (.ref f_read_number) = true)
  (a_number_of : PySem.W.nsIn K mainGlobals "number_of" = some (some (.ref f_number_of))) (l_number_of : K.lookup f_number_of = some ⟨oc_number_of, od_number_of, .func (PySem.W.fnOf "number_of" "number_of" (defArgs s_number_of) (defBody s_number_of) (defScope s_number_of) .none kV_number_of dc_number_of pm_number_of an_number_of cd_number_of ct_number_of), sl_number_of⟩) (c_number_of : PySem.W.codeIn K cd_number_of "number_of" = true) (k_number_of : PySem.W.keepIn K (.ref f_number_of) = true)
  (a_is_point : PySem.W.nsIn K mainGlobals "is_point" = some (some (.ref f_is_point))) (l_is_point : K.lookup f_is_point = some ⟨oc_is_point, od_is_point, .func (PySem.W.fnOf "is_point" "is_point" (defArgs s_is_point) (defBody s_is_point) (defScope s_is_point) .none kV_is_point dc_is_point pm_is_point an_is_point cd_is_point ct_is_point), sl_is_point⟩) (c_is_point : PySem.W.codeIn K cd_is_point "is_point" = true) (k_is_point : PySem.W.keepIn K (.ref f_is_point) = true)
  (a_check_points : PySem.W.nsIn K mainGlobals "check_points" = some (some (.ref f_check_points))) (l_check_points : K.lookup f_check_points = some ⟨oc_check_points, od_check_points, .func (PySem.W.fnOf "check_points" "check_points" (defArgs s_check_points) (defBody s_check_points) (defScope s_check_points) .none kV_check_points dc_check_points pm_check_points an_check_points cd_check_points ct_check_points), sl_check_points⟩) (c_check_points : PySem.W.codeIn K cd_check_points "check_points" = true) (k_check_points : PySem.W.keepIn K (.ref f_check_points) = true)
  (a_sum_way : PySem.W.nsIn K mainGlobals "sum_way" = some (some (.ref f_sum_way))) (l_sum_way : K.lookup f_sum_way = some ⟨oc_sum_way, od_sum_way, .func (PySem.W.fnOf "sum_way" "sum_way" (defArgs s_sum_way) (defBody s_sum_way) (defScope s_sum_way) .none kV_sum_way dc_sum_way pm_sum_way an_sum_way cd_sum_way ct_sum_way), sl_sum_way⟩) (c_sum_way : PySem.W.codeIn K cd_sum_way "sum_way" = true) (k_sum_way : PySem.W.keepIn K (.ref f_sum_way) = true)
  (a_added : PySem.W.nsIn K mainGlobals "added" = some (some (.ref f_added))) (l_added : K.lookup f_added = some ⟨oc_added, od_added, .func (PySem.W.fnOf "added" "added" (defArgs s_added) (defBody s_added) (defScope s_added) .none kV_added dc_added pm_added an_added cd_added ct_added), sl_added⟩) (c_added : PySem.W.codeIn K cd_added "added" = true) (k_added : PySem.W.keepIn K (.ref f_added) = true)
  (a_way_between : PySem.W.nsIn K mainGlobals "way_between" = some (some (.ref f_way_between))) (l_way_between : K.lookup f_way_between = some ⟨oc_way_between, od_way_between, .func (PySem.W.fnOf "way_between" "way_between" (defArgs s_way_between) (defBody s_way_between) (defScope s_way_between) .none kV_way_between dc_way_between pm_way_between an_way_between cd_way_between ct_way_between), sl_way_between⟩) (c_way_between : PySem.W.codeIn K cd_way_between "way_between" = true) (k_way_between : PySem.W.keepIn K (.ref f_way_between) = true)
  (a_taken : PySem.W.nsIn K mainGlobals "taken" = some (some (.ref f_taken))) (l_taken : K.lookup f_taken = some ⟨oc_taken, od_taken, .func (PySem.W.fnOf "taken" "taken" (defArgs s_taken) (defBody s_taken) (defScope s_taken) .none kV_taken dc_taken pm_taken an_taken cd_taken ct_taken), sl_taken⟩) (c_taken : PySem.W.codeIn K cd_taken "taken" = true) (k_taken : PySem.W.keepIn K (.ref f_taken) = true)
  (a_dot_by : PySem.W.nsIn K mainGlobals "dot_by" = some (some (.ref f_dot_by))) (l_dot_by : K.lookup f_dot_by = some ⟨oc_dot_by, od_dot_by, .func (PySem.W.fnOf "dot_by" "dot_by" (defArgs s_dot_by) (defBody s_dot_by) (defScope s_dot_by) .none kV_dot_by dc_dot_by pm_dot_by an_dot_by cd_dot_by ct_dot_by), sl_dot_by⟩) (c_dot_by : PySem.W.codeIn K cd_dot_by "dot_by" = true) (k_dot_by : PySem.W.keepIn K (.ref f_dot_by) = true)
  (a_dot : PySem.W.nsIn K mainGlobals "dot" = some (some (.ref f_dot))) (l_dot : K.lookup f_dot = some ⟨oc_dot, od_dot, .func (PySem.W.fnOf "dot" "dot" (defArgs s_dot) (defBody s_dot) (defScope s_dot) .none kV_dot dc_dot pm_dot an_dot cd_dot ct_dot), sl_dot⟩) (c_dot : PySem.W.codeIn K cd_dot "dot" = true) (k_dot : PySem.W.keepIn K (.ref f_dot) = true)
  (a_cross_by : PySem.W.nsIn K mainGlobals "cross_by" = some (some (.ref f_cross_by))) (l_cross_by : K.lookup f_cross_by = some ⟨oc_cross_by, od_cross_by, .func (PySem.W.fnOf "cross_by" "cross_by" (defArgs s_cross_by) (defBody s_cross_by) (defScope s_cross_by) .none kV_cross_by dc_cross_by pm_cross_by an_cross_by cd_cross_by ct_cross_by), sl_cross_by⟩) (c_cross_by : PySem.W.codeIn K cd_cross_by "cross_by" = true) (k_cross_by : PySem.W.keepIn K (.ref f_cross_by) = true)
  (a_cross : PySem.W.nsIn K mainGlobals "cross" = some (some (.ref f_cross))) (l_cross : K.lookup f_cross = some ⟨oc_cross, od_cross, .func (PySem.W.fnOf "cross" "cross" (defArgs s_cross) (defBody s_cross) (defScope s_cross) .none kV_cross dc_cross pm_cross an_cross cd_cross ct_cross), sl_cross⟩) (c_cross : PySem.W.codeIn K cd_cross "cross" = true) (k_cross : PySem.W.keepIn K (.ref f_cross) = true)
  (a_way_times : PySem.W.nsIn K mainGlobals "way_times" = some (some (.ref f_way_times))) (l_way_times : K.lookup f_way_times = some ⟨oc_way_times, od_way_times, .func (PySem.W.fnOf "way_times" "way_times" (defArgs s_way_times) (defBody s_way_times) (defScope s_way_times) .none kV_way_times dc_way_times pm_way_times an_way_times cd_way_times ct_way_times), sl_way_times⟩) (c_way_times : PySem.W.codeIn K cd_way_times "way_times" = true) (k_way_times : PySem.W.keepIn K (.ref f_way_times) = true)
  (a_stretched : PySem.W.nsIn K mainGlobals "stretched" = some (some (.ref f_stretched))) (l_stretched : K.lookup f_stretched = some ⟨oc_stretched, od_stretched, .func (PySem.W.fnOf "stretched" "stretched" (defArgs s_stretched) (defBody s_stretched) (defScope s_stretched) .none kV_stretched dc_stretched pm_stretched an_stretched cd_stretched ct_stretched), sl_stretched⟩) (c_stretched : PySem.W.codeIn K cd_stretched "stretched" = true) (k_stretched : PySem.W.keepIn K (.ref f_stretched) = true)
  (a__law_error : PySem.W.nsIn K mainGlobals "_law_error" = some (some (.ref f__law_error))) (l__law_error : K.lookup f__law_error = some ⟨oc__law_error, od__law_error, .func (PySem.W.fnOf "_law_error" "_law_error" (defArgs s__law_error) (defBody s__law_error) (defScope s__law_error) .none kV__law_error dc__law_error pm__law_error an__law_error cd__law_error ct__law_error), sl__law_error⟩) (c__law_error : PySem.W.codeIn K cd__law_error "_law_error" = true) (k__law_error : PySem.W.keepIn K (.ref f__law_error) = true)
  (a__law_refuses : PySem.W.nsIn K mainGlobals "_law_refuses" = some (some (.ref f__law_refuses))) (l__law_refuses : K.lookup f__law_refuses = some ⟨oc__law_refuses, od__law_refuses, .func (PySem.W.fnOf "_law_refuses" "_law_refuses" (defArgs s__law_refuses) (defBody s__law_refuses) (defScope s__law_refuses) .none kV__law_refuses dc__law_refuses pm__law_refuses an__law_refuses cd__law_refuses ct__law_refuses), sl__law_refuses⟩) (c__law_refuses : PySem.W.codeIn K cd__law_refuses "_law_refuses" = true) (k__law_refuses : PySem.W.keepIn K (.ref f__law_refuses) = true)
  (a__law_is : PySem.W.nsIn K mainGlobals "_law_is" = some (some (.ref f__law_is))) (l__law_is : K.lookup f__law_is = some ⟨oc__law_is, od__law_is, .func (PySem.W.fnOf "_law_is" "_law_is" (defArgs s__law_is) (defBody s__law_is) (defScope s__law_is) .none kV__law_is dc__law_is pm__law_is an__law_is cd__law_is ct__law_is), sl__law_is⟩) (c__law_is : PySem.W.codeIn K cd__law_is "_law_is" = true) (k__law_is : PySem.W.keepIn K (.ref f__law_is) = true)
  (a_law : PySem.W.nsIn K mainGlobals "law" = some (some (.ref f_law))) (l_law : K.lookup f_law = some ⟨oc_law, od_law, .func (PySem.W.fnOf "law" "law" (defArgs s_law) (defBody s_law) (defScope s_law) .none kV_law dc_law pm_law an_law cd_law ct_law), sl_law⟩) (c_law : PySem.W.codeIn K cd_law "law" = true) (k_law : PySem.W.keepIn K (.ref f_law) = true) : Txt K mg :=
  { n_abs := PySem.W.mg_none_of X G z_abs,
    n_all := PySem.W.mg_none_of X G z_all,
    n_any := PySem.W.mg_none_of X G z_any,
    n_bool := PySem.W.mg_none_of X G z_bool,
    n_int := PySem.W.mg_none_of X G z_int,
    n_isinstance := PySem.W.mg_none_of X G z_isinstance,
    n_len := PySem.W.mg_none_of X G z_len,
    n_range := PySem.W.mg_none_of X G z_range,
    n_str := PySem.W.mg_none_of X G z_str,
    n_tuple := PySem.W.mg_none_of X G z_tuple,
    t_FIGURES := t_FIGURES, c_FIGURES := PySem.W.mg_of X G k_FIGURES,
    t_MOST_FIGURES := t_MOST_FIGURES, c_MOST_FIGURES := PySem.W.mg_of X G k_MOST_FIGURES,
    C_BadNumber := C_BadNumber, x_BadNumber := ⟨PySem.W.mg_of X G xa_BadNumber, xe_BadNumber, xk_BadNumber, xb_BadNumber, xt_BadNumber⟩,
    C_BadPoint := C_BadPoint, x_BadPoint := ⟨PySem.W.mg_of X G xa_BadPoint, xe_BadPoint, xk_BadPoint, xb_BadPoint, xt_BadPoint⟩,
    C_BadText := C_BadText, x_BadText := ⟨PySem.W.mg_of X G xa_BadText, xe_BadText, xk_BadText, xb_BadText, xt_BadText⟩,
    exs := fun x hx y hy c c' hc hc' => by
      simp only [List.mem_cons, List.not_mem_nil, or_false] at hx hy
      rcases hx with rfl|rfl|rfl <;> rcases hy with rfl|rfl|rfl
      · rw [PySem.W.mg_of X G xa_BadNumber] at hc; rw [PySem.W.mg_of X G xa_BadNumber] at hc'; cases hc; cases hc'; rw [show decide (("BadNumber" : Str) = "BadNumber") = true by decide]; exact PySem.W.exm_ref xb_BadNumber xd_BadNumber xt_BadNumber s_BadNumber_BadNumber
      · rw [PySem.W.mg_of X G xa_BadNumber] at hc; rw [PySem.W.mg_of X G xa_BadPoint] at hc'; cases hc; cases hc'; rw [show decide (("BadNumber" : Str) = "BadPoint") = false by decide]; exact PySem.W.exm_ref xb_BadPoint xd_BadPoint xt_BadPoint s_BadNumber_BadPoint
      · rw [PySem.W.mg_of X G xa_BadNumber] at hc; rw [PySem.W.mg_of X G xa_BadText] at hc'; cases hc; cases hc'; rw [show decide (("BadNumber" : Str) = "BadText") = false by decide]; exact PySem.W.exm_ref xb_BadText xd_BadText xt_BadText s_BadNumber_BadText
      · rw [PySem.W.mg_of X G xa_BadPoint] at hc; rw [PySem.W.mg_of X G xa_BadNumber] at hc'; cases hc; cases hc'; rw [show decide (("BadPoint" : Str) = "BadNumber") = false by decide]; exact PySem.W.exm_ref xb_BadNumber xd_BadNumber xt_BadNumber s_BadPoint_BadNumber
      · rw [PySem.W.mg_of X G xa_BadPoint] at hc; rw [PySem.W.mg_of X G xa_BadPoint] at hc'; cases hc; cases hc'; rw [show decide (("BadPoint" : Str) = "BadPoint") = true by decide]; exact PySem.W.exm_ref xb_BadPoint xd_BadPoint xt_BadPoint s_BadPoint_BadPoint
      · rw [PySem.W.mg_of X G xa_BadPoint] at hc; rw [PySem.W.mg_of X G xa_BadText] at hc'; cases hc; cases hc'; rw [show decide (("BadPoint" : Str) = "BadText") = false by decide]; exact PySem.W.exm_ref xb_BadText xd_BadText xt_BadText s_BadPoint_BadText
      · rw [PySem.W.mg_of X G xa_BadText] at hc; rw [PySem.W.mg_of X G xa_BadNumber] at hc'; cases hc; cases hc'; rw [show decide (("BadText" : Str) = "BadNumber") = false by decide]; exact PySem.W.exm_ref xb_BadNumber xd_BadNumber xt_BadNumber s_BadText_BadNumber
      · rw [PySem.W.mg_of X G xa_BadText] at hc; rw [PySem.W.mg_of X G xa_BadPoint] at hc'; cases hc; cases hc'; rw [show decide (("BadText" : Str) = "BadPoint") = false by decide]; exact PySem.W.exm_ref xb_BadPoint xd_BadPoint xt_BadPoint s_BadText_BadPoint
      · rw [PySem.W.mg_of X G xa_BadText] at hc; rw [PySem.W.mg_of X G xa_BadText] at hc'; cases hc; cases hc'; rw [show decide (("BadText" : Str) = "BadText") = true by decide]; exact PySem.W.exm_ref xb_BadText xd_BadText xt_BadText s_BadText_BadText
,
    f__law_draws := f__law_draws, d__law_draws := _, F__law_draws := fun_mk (st := s__law_draws) l__law_draws c__law_draws k__law_draws, g__law_draws := PySem.W.mg_of X G a__law_draws, b__law_draws := (fun_mk (st := s__law_draws) l__law_draws c__law_draws k__law_draws).binds (ps := ["script", "many"]) fun _ _ _ _ _ _ us hl => match us, hl with | [_, _], _ => rfl,
    f_is_integer := f_is_integer, d_is_integer := _, F_is_integer := fun_mk (st := s_is_integer) l_is_integer c_is_integer k_is_integer, g_is_integer := PySem.W.mg_of X G a_is_integer, b_is_integer := (fun_mk (st := s_is_integer) l_is_integer c_is_integer k_is_integer).binds (ps := ["value"]) fun _ _ _ _ _ _ us hl => match us, hl with | [_], _ => rfl,
    f_divisor := f_divisor, d_divisor := _, F_divisor := fun_mk (st := s_divisor) l_divisor c_divisor k_divisor, g_divisor := PySem.W.mg_of X G a_divisor, b_divisor := (fun_mk (st := s_divisor) l_divisor c_divisor k_divisor).binds (ps := ["one", "other"]) fun _ _ _ _ _ _ us hl => match us, hl with | [_, _], _ => rfl,
    f_is_number := f_is_number, d_is_number := _, F_is_number := fun_mk (st := s_is_number) l_is_number c_is_number k_is_number, g_is_number := PySem.W.mg_of X G a_is_number, b_is_number := (fun_mk (st := s_is_number) l_is_number c_is_number k_is_number).binds (ps := ["value"]) fun _ _ _ _ _ _ us hl => match us, hl with | [_], _ => rfl,
    f_check_numbers := f_check_numbers, d_check_numbers := _, F_check_numbers := fun_mk (st := s_check_numbers) l_check_numbers c_check_numbers k_check_numbers, g_check_numbers := PySem.W.mg_of X G a_check_numbers, b_check_numbers := (fun_mk (st := s_check_numbers) l_check_numbers c_check_numbers k_check_numbers).binds (ps := ["values"]) fun _ _ _ _ _ _ us hl => match us, hl with | [_], _ => rfl,
    f_made := f_made, d_made := _, F_made := fun_mk (st := s_made) l_made c_made k_made, g_made := PySem.W.mg_of X G a_made, b_made := (fun_mk (st := s_made) l_made c_made k_made).binds (ps := ["above", "below"]) fun _ _ _ _ _ _ us hl => match us, hl with | [_, _], _ => rfl,
    f_sum_of := f_sum_of, d_sum_of := _, F_sum_of := fun_mk (st := s_sum_of) l_sum_of c_sum_of k_sum_of, g_sum_of := PySem.W.mg_of X G a_sum_of, b_sum_of := (fun_mk (st := s_sum_of) l_sum_of c_sum_of k_sum_of).binds (ps := ["one", "other"]) fun _ _ _ _ _ _ us hl => match us, hl with | [_, _], _ => rfl,
    f_plus := f_plus, d_plus := _, F_plus := fun_mk (st := s_plus) l_plus c_plus k_plus, g_plus := PySem.W.mg_of X G a_plus, b_plus := (fun_mk (st := s_plus) l_plus c_plus k_plus).binds (ps := ["one", "other"]) fun _ _ _ _ _ _ us hl => match us, hl with | [_, _], _ => rfl,
    f_difference := f_difference, d_difference := _, F_difference := fun_mk (st := s_difference) l_difference c_difference k_difference, g_difference := PySem.W.mg_of X G a_difference, b_difference := (fun_mk (st := s_difference) l_difference c_difference k_difference).binds (ps := ["one", "other"]) fun _ _ _ _ _ _ us hl => match us, hl with | [_, _], _ => rfl,
    f_minus := f_minus, d_minus := _, F_minus := fun_mk (st := s_minus) l_minus c_minus k_minus, g_minus := PySem.W.mg_of X G a_minus, b_minus := (fun_mk (st := s_minus) l_minus c_minus k_minus).binds (ps := ["one", "other"]) fun _ _ _ _ _ _ us hl => match us, hl with | [_, _], _ => rfl,
    f_product := f_product, d_product := _, F_product := fun_mk (st := s_product) l_product c_product k_product, g_product := PySem.W.mg_of X G a_product, b_product := (fun_mk (st := s_product) l_product c_product k_product).binds (ps := ["one", "other"]) fun _ _ _ _ _ _ us hl => match us, hl with | [_, _], _ => rfl,
    f_times := f_times, d_times := _, F_times := fun_mk (st := s_times) l_times c_times k_times, g_times := PySem.W.mg_of X G a_times, b_times := (fun_mk (st := s_times) l_times c_times k_times).binds (ps := ["one", "other"]) fun _ _ _ _ _ _ us hl => match us, hl with | [_, _], _ => rfl,
    f_quotient := f_quotient, d_quotient := _, F_quotient := fun_mk (st := s_quotient) l_quotient c_quotient k_quotient, g_quotient := PySem.W.mg_of X G a_quotient, b_quotient := (fun_mk (st := s_quotient) l_quotient c_quotient k_quotient).binds (ps := ["one", "other"]) fun _ _ _ _ _ _ us hl => match us, hl with | [_, _], _ => rfl,
    f_over := f_over, d_over := _, F_over := fun_mk (st := s_over) l_over c_over k_over, g_over := PySem.W.mg_of X G a_over, b_over := (fun_mk (st := s_over) l_over c_over k_over).binds (ps := ["one", "other"]) fun _ _ _ _ _ _ us hl => match us, hl with | [_, _], _ => rfl,
    f_order := f_order, d_order := _, F_order := fun_mk (st := s_order) l_order c_order k_order, g_order := PySem.W.mg_of X G a_order, b_order := (fun_mk (st := s_order) l_order c_order k_order).binds (ps := ["one", "other"]) fun _ _ _ _ _ _ us hl => match us, hl with | [_, _], _ => rfl,
    f_compare := f_compare, d_compare := _, F_compare := fun_mk (st := s_compare) l_compare c_compare k_compare, g_compare := PySem.W.mg_of X G a_compare, b_compare := (fun_mk (st := s_compare) l_compare c_compare k_compare).binds (ps := ["one", "other"]) fun _ _ _ _ _ _ us hl => match us, hl with | [_, _], _ => rfl,
    f_ratio := f_ratio, d_ratio := _, F_ratio := fun_mk (st := s_ratio) l_ratio c_ratio k_ratio, g_ratio := PySem.W.mg_of X G a_ratio, b_ratio := (fun_mk (st := s_ratio) l_ratio c_ratio k_ratio).binds (ps := ["above", "below"]) fun _ _ _ _ _ _ us hl => match us, hl with | [_, _], _ => rfl,
    f_turned := f_turned, d_turned := _, F_turned := fun_mk (st := s_turned) l_turned c_turned k_turned, g_turned := PySem.W.mg_of X G a_turned, b_turned := (fun_mk (st := s_turned) l_turned c_turned k_turned).binds (ps := ["one"]) fun _ _ _ _ _ _ us hl => match us, hl with | [_], _ => rfl,
    f__check_some := f__check_some, d__check_some := _, F__check_some := fun_mk (st := s__check_some) l__check_some c__check_some k__check_some, g__check_some := PySem.W.mg_of X G a__check_some, b__check_some := (fun_mk (st := s__check_some) l__check_some c__check_some k__check_some).binds (ps := ["numbers"]) fun _ _ _ _ _ _ us hl => match us, hl with | [_], _ => rfl,
    f_least_of := f_least_of, d_least_of := _, F_least_of := fun_mk (st := s_least_of) l_least_of c_least_of k_least_of, g_least_of := PySem.W.mg_of X G a_least_of, b_least_of := (fun_mk (st := s_least_of) l_least_of c_least_of k_least_of).binds (ps := ["numbers"]) fun _ _ _ _ _ _ us hl => match us, hl with | [_], _ => rfl,
    f_least_one := f_least_one, d_least_one := _, F_least_one := fun_mk (st := s_least_one) l_least_one c_least_one k_least_one, g_least_one := PySem.W.mg_of X G a_least_one, b_least_one := (fun_mk (st := s_least_one) l_least_one c_least_one k_least_one).binds (ps := ["numbers"]) fun _ _ _ _ _ _ us hl => match us, hl with | [_], _ => rfl,
    f_greatest_of := f_greatest_of, d_greatest_of := _, F_greatest_of := fun_mk (st := s_greatest_of) l_greatest_of c_greatest_of k_greatest_of, g_greatest_of := PySem.W.mg_of X G a_greatest_of, b_greatest_of := (fun_mk (st := s_greatest_of) l_greatest_of c_greatest_of k_greatest_of).binds (ps := ["numbers"]) fun _ _ _ _ _ _ us hl => match us, hl with | [_], _ => rfl,
    f_greatest_one := f_greatest_one, d_greatest_one := _, F_greatest_one := fun_mk (st := s_greatest_one) l_greatest_one c_greatest_one k_greatest_one, g_greatest_one := PySem.W.mg_of X G a_greatest_one, b_greatest_one := (fun_mk (st := s_greatest_one) l_greatest_one c_greatest_one k_greatest_one).binds (ps := ["numbers"]) fun _ _ _ _ _ _ us hl => match us, hl with | [_], _ => rfl,
    f_text_by := f_text_by, d_text_by := _, F_text_by := fun_mk (st := s_text_by) l_text_by c_text_by k_text_by, g_text_by := PySem.W.mg_of X G a_text_by, b_text_by := (fun_mk (st := s_text_by) l_text_by c_text_by k_text_by).binds (ps := ["one"]) fun _ _ _ _ _ _ us hl => match us, hl with | [_], _ => rfl,
    f_number_text := f_number_text, d_number_text := _, F_number_text := fun_mk (st := s_number_text) l_number_text c_number_text k_number_text, g_number_text := PySem.W.mg_of X G a_number_text, b_number_text := (fun_mk (st := s_number_text) l_number_text c_number_text k_number_text).binds (ps := ["one"]) fun _ _ _ _ _ _ us hl => match us, hl with | [_], _ => rfl,
    f_integer_of := f_integer_of, d_integer_of := _, F_integer_of := fun_mk (st := s_integer_of) l_integer_of c_integer_of k_integer_of, g_integer_of := PySem.W.mg_of X G a_integer_of, b_integer_of := (fun_mk (st := s_integer_of) l_integer_of c_integer_of k_integer_of).binds (ps := ["word"]) fun _ _ _ _ _ _ us hl => match us, hl with | [_], _ => rfl,
    f_read_number := f_read_number, d_read_number := _, F_read_number := fun_mk (st := s_read_number) l_read_number c_read_number k_read_number, g_read_number := PySem.W.mg_of X G a_read_number, b_read_number := (fun_mk (st := s_read_number) l_read_number c_read_number k_read_number).binds (ps := ["text"]) fun _ _ _ _ _ _ us hl => match us, hl with | [_], _ => rfl,
    f_number_of := f_number_of, d_number_of := _, F_number_of := fun_mk (st := s_number_of) l_number_of c_number_of k_number_of, g_number_of := PySem.W.mg_of X G a_number_of, b_number_of := (fun_mk (st := s_number_of) l_number_of c_number_of k_number_of).binds (ps := ["text"]) fun _ _ _ _ _ _ us hl => match us, hl with | [_], _ => rfl,
    f_is_point := f_is_point, d_is_point := _, F_is_point := fun_mk (st := s_is_point) l_is_point c_is_point k_is_point, g_is_point := PySem.W.mg_of X G a_is_point, b_is_point := (fun_mk (st := s_is_point) l_is_point c_is_point k_is_point).binds (ps := ["value"]) fun _ _ _ _ _ _ us hl => match us, hl with | [_], _ => rfl,
    f_check_points := f_check_points, d_check_points := _, F_check_points := fun_mk (st := s_check_points) l_check_points c_check_points k_check_points, g_check_points := PySem.W.mg_of X G a_check_points, b_check_points := (fun_mk (st := s_check_points) l_check_points c_check_points k_check_points).binds (ps := ["values"]) fun _ _ _ _ _ _ us hl => match us, hl with | [_], _ => rfl,
    f_sum_way := f_sum_way, d_sum_way := _, F_sum_way := fun_mk (st := s_sum_way) l_sum_way c_sum_way k_sum_way, g_sum_way := PySem.W.mg_of X G a_sum_way, b_sum_way := (fun_mk (st := s_sum_way) l_sum_way c_sum_way k_sum_way).binds (ps := ["one", "other"]) fun _ _ _ _ _ _ us hl => match us, hl with | [_, _], _ => rfl,
    f_added := f_added, d_added := _, F_added := fun_mk (st := s_added) l_added c_added k_added, g_added := PySem.W.mg_of X G a_added, b_added := (fun_mk (st := s_added) l_added c_added k_added).binds (ps := ["one", "other"]) fun _ _ _ _ _ _ us hl => match us, hl with | [_, _], _ => rfl,
    f_way_between := f_way_between, d_way_between := _, F_way_between := fun_mk (st := s_way_between) l_way_between c_way_between k_way_between, g_way_between := PySem.W.mg_of X G a_way_between, b_way_between := (fun_mk (st := s_way_between) l_way_between c_way_between k_way_between).binds (ps := ["one", "other"]) fun _ _ _ _ _ _ us hl => match us, hl with | [_, _], _ => rfl,
    f_taken := f_taken, d_taken := _, F_taken := fun_mk (st := s_taken) l_taken c_taken k_taken, g_taken := PySem.W.mg_of X G a_taken, b_taken := (fun_mk (st := s_taken) l_taken c_taken k_taken).binds (ps := ["one", "other"]) fun _ _ _ _ _ _ us hl => match us, hl with | [_, _], _ => rfl,
    f_dot_by := f_dot_by, d_dot_by := _, F_dot_by := fun_mk (st := s_dot_by) l_dot_by c_dot_by k_dot_by, g_dot_by := PySem.W.mg_of X G a_dot_by, b_dot_by := (fun_mk (st := s_dot_by) l_dot_by c_dot_by k_dot_by).binds (ps := ["one", "other"]) fun _ _ _ _ _ _ us hl => match us, hl with | [_, _], _ => rfl,
    f_dot := f_dot, d_dot := _, F_dot := fun_mk (st := s_dot) l_dot c_dot k_dot, g_dot := PySem.W.mg_of X G a_dot, b_dot := (fun_mk (st := s_dot) l_dot c_dot k_dot).binds (ps := ["one", "other"]) fun _ _ _ _ _ _ us hl => match us, hl with | [_, _], _ => rfl,
    f_cross_by := f_cross_by, d_cross_by := _, F_cross_by := fun_mk (st := s_cross_by) l_cross_by c_cross_by k_cross_by, g_cross_by := PySem.W.mg_of X G a_cross_by, b_cross_by := (fun_mk (st := s_cross_by) l_cross_by c_cross_by k_cross_by).binds (ps := ["one", "other"]) fun _ _ _ _ _ _ us hl => match us, hl with | [_, _], _ => rfl,
    f_cross := f_cross, d_cross := _, F_cross := fun_mk (st := s_cross) l_cross c_cross k_cross, g_cross := PySem.W.mg_of X G a_cross, b_cross := (fun_mk (st := s_cross) l_cross c_cross k_cross).binds (ps := ["one", "other"]) fun _ _ _ _ _ _ us hl => match us, hl with | [_, _], _ => rfl,
    f_way_times := f_way_times, d_way_times := _, F_way_times := fun_mk (st := s_way_times) l_way_times c_way_times k_way_times, g_way_times := PySem.W.mg_of X G a_way_times, b_way_times := (fun_mk (st := s_way_times) l_way_times c_way_times k_way_times).binds (ps := ["one", "way"]) fun _ _ _ _ _ _ us hl => match us, hl with | [_, _], _ => rfl,
    f_stretched := f_stretched, d_stretched := _, F_stretched := fun_mk (st := s_stretched) l_stretched c_stretched k_stretched, g_stretched := PySem.W.mg_of X G a_stretched, b_stretched := (fun_mk (st := s_stretched) l_stretched c_stretched k_stretched).binds (ps := ["one", "way"]) fun _ _ _ _ _ _ us hl => match us, hl with | [_, _], _ => rfl,
    f__law_error := f__law_error, d__law_error := _, F__law_error := fun_mk (st := s__law_error) l__law_error c__law_error k__law_error, g__law_error := PySem.W.mg_of X G a__law_error, b__law_error := (fun_mk (st := s__law_error) l__law_error c__law_error k__law_error).binds (ps := ["call", "one", "two"]) fun _ _ _ _ _ _ us hl => match us, hl with | [_, _, _], _ => rfl,
    f__law_refuses := f__law_refuses, d__law_refuses := _, F__law_refuses := fun_mk (st := s__law_refuses) l__law_refuses c__law_refuses k__law_refuses, g__law_refuses := PySem.W.mg_of X G a__law_refuses, b__law_refuses := (fun_mk (st := s__law_refuses) l__law_refuses c__law_refuses k__law_refuses).binds (ps := []) fun _ _ _ _ _ _ us hl => match us, hl with | [], _ => rfl,
    f__law_is := f__law_is, d__law_is := _, F__law_is := fun_mk (st := s__law_is) l__law_is c__law_is k__law_is, g__law_is := PySem.W.mg_of X G a__law_is, b__law_is := (fun_mk (st := s__law_is) l__law_is c__law_is k__law_is).binds (ps := ["one", "above", "below"]) fun _ _ _ _ _ _ us hl => match us, hl with | [_, _, _], _ => rfl,
    f_law := f_law, d_law := _, F_law := fun_mk (st := s_law) l_law c_law k_law, g_law := PySem.W.mg_of X G a_law, b_law := (fun_mk (st := s_law) l_law c_law k_law).binds (ps := ["script"]) fun _ _ _ _ _ _ us hl => match us, hl with | [_], _ => rfl }
theorem law_mk {K : PySem.W.Frag} {mg : Str → Option Value} {fa : Addr} {w : World} (T : Txt K mg) (hfa : mg "law" = some (.ref fa)) : ∃ fd : FuncData, (∀ (s : Shared) (v : Value), BindsTo s fd ⟨[v], []⟩ [("script", v)]) ∧ ∀ base : Heap, K.In base → base.Ns mainGlobals mg → FnOk PySem.Challenge.rw_touchtrue_k00_whole_numbers.prog w K mg base (L2.CX PySem.Challenge.rw_touchtrue_k00_whole_numbers.prog w) 8 fa fd ["script"] (spLaw K) := by
  have e := hfa.symm.trans T.g_law
  cases e
  refine ⟨T.d_law, fun s v => by obtain ⟨_, _, _, _, _, _, _, _, _, e, _, _⟩ := T.F_law.ex; rw [e]; exact .of_eq rfl, fun base _ _ => (ok_law T).imp fun vs H Q E ⟨a, ns, e1, hl, hs, q⟩ => ?_⟩
  subst e1
  refine ⟨H, [scrD ns], .refl _, .one (.scr hs), rfl, ?_⟩
  rw [Mt.law_true ns hl]
  exact fun v G' H' _ r => by cases r; exact q H'
end Wk
open PySem PySem.W PyProof.Rows
theorem PySem.Challenge.cw_touchtrue_k00_whole_numbers_holds : PySem.Challenge.rw_touchtrue_k00_whole_numbers.Holds := by
  w_on; o_law; k_head; (case hw => w_witness2)
  k_fill
  refine L2.walk_of (l := PySem.Challenge.rw_touchtrue_k00_whole_numbers) (n := 63) (k := 8) (x := "script") (CX := fun w => L2.CX PySem.Challenge.rw_touchtrue_k00_whole_numbers.prog w) (sp := fun w => Wk.spLaw _) rfl (by decide) rfl ⟨rfl, by decide, by decide⟩ (fun w h Y => PySem.W.kIn_of Y) ?F (fun _ _ a ns hl _ hS => ⟨a, ns, rfl, hl, hS, fun _ => rfl⟩) (fun _ _ _ _ _ h => by obtain ⟨_, _, _, _, _, _, _, _, _, _, _, _, z⟩ := h; exact z.elim)
  case F =>
    intro w mg fa h KX G hmg
    refine' Wk.law_mk (Wk.mkTxt KX G ?z_abs ?z_all ?z_any ?z_bool ?z_int ?z_isinstance ?z_len ?z_range ?z_str ?z_tuple ?k_FIGURES ?k_MOST_FIGURES ?xa_BadNumber ?xe_BadNumber ?xk_BadNumber ?xb_BadNumber ?xt_BadNumber ?xd_BadNumber ?xa_BadPoint ?xe_BadPoint ?xk_BadPoint ?xb_BadPoint ?xt_BadPoint ?xd_BadPoint ?xa_BadText ?xe_BadText ?xk_BadText ?xb_BadText ?xt_BadText ?xd_BadText ?s_BadNumber_BadNumber ?s_BadNumber_BadPoint ?s_BadNumber_BadText ?s_BadPoint_BadNumber ?s_BadPoint_BadPoint ?s_BadPoint_BadText ?s_BadText_BadNumber ?s_BadText_BadPoint ?s_BadText_BadText ?a__law_draws ?l__law_draws ?c__law_draws ?k__law_draws ?a_is_integer ?l_is_integer ?c_is_integer ?k_is_integer ?a_divisor ?l_divisor ?c_divisor ?k_divisor ?a_is_number ?l_is_number ?c_is_number ?k_is_number ?a_check_numbers ?l_check_numbers ?c_check_numbers ?k_check_numbers ?a_made ?l_made ?c_made ?k_made ?a_sum_of ?l_sum_of ?c_sum_of ?k_sum_of ?a_plus ?l_plus ?c_plus ?k_plus ?a_difference ?l_difference ?c_difference ?k_difference ?a_minus ?l_minus ?c_minus ?k_minus ?a_product ?l_product ?c_product ?k_product ?a_times ?l_times ?c_times ?k_times ?a_quotient ?l_quotient ?c_quotient ?k_quotient ?a_over ?l_over ?c_over ?k_over ?a_order ?l_order ?c_order ?k_order ?a_compare ?l_compare ?c_compare ?k_compare ?a_ratio ?l_ratio ?c_ratio ?k_ratio ?a_turned ?l_turned ?c_turned ?k_turned ?a__check_some ?l__check_some ?c__check_some ?k__check_some ?a_least_of ?l_least_of ?c_least_of ?k_least_of ?a_least_one ?l_least_one ?c_least_one ?k_least_one ?a_greatest_of ?l_greatest_of ?c_greatest_of ?k_greatest_of ?a_greatest_one ?l_greatest_one ?c_greatest_one ?k_greatest_one ?a_text_by ?l_text_by ?c_text_by ?k_text_by ?a_number_text ?l_number_text ?c_number_text ?k_number_text ?a_integer_of ?l_integer_of ?c_integer_of ?k_integer_of ?a_read_number ?l_read_number ?c_read_number ?k_read_number ?a_number_of ?l_number_of ?c_number_of ?k_number_of ?a_is_point ?l_is_point ?c_is_point ?k_is_point ?a_check_points ?l_check_points ?c_check_points ?k_check_points ?a_sum_way ?l_sum_way ?c_sum_way ?k_sum_way ?a_added ?l_added ?c_added ?k_added ?a_way_between ?l_way_between ?c_way_between ?k_way_between ?a_taken ?l_taken ?c_taken ?k_taken ?a_dot_by ?l_dot_by ?c_dot_by ?k_dot_by ?a_dot ?l_dot ?c_dot ?k_dot ?a_cross_by ?l_cross_by ?c_cross_by ?k_cross_by ?a_cross ?l_cross ?c_cross ?k_cross ?a_way_times ?l_way_times ?c_way_times ?k_way_times ?a_stretched ?l_stretched ?c_stretched ?k_stretched ?a__law_error ?l__law_error ?c__law_error ?k__law_error ?a__law_refuses ?l__law_refuses ?c__law_refuses ?k__law_refuses ?a__law_is ?l__law_is ?c__law_is ?k__law_is ?a_law ?l_law ?c_law ?k_law) hmg
    (case z_abs => k_is); (case z_all => k_is); (case z_any => k_is); (case z_bool => k_is); (case z_int => k_is); (case z_isinstance => k_is); (case z_len => k_is); (case z_range => k_is); (case z_str => k_is); (case z_tuple => k_is); (case k_FIGURES => k_is); (case k_MOST_FIGURES => k_is); (case xa_BadNumber => k_is); (case xe_BadNumber => k_exc); (case xk_BadNumber => k_is); (case xb_BadNumber => k_is); (case xt_BadNumber => k_is); (case xd_BadNumber => k_is); (case xa_BadPoint => k_is); (case xe_BadPoint => k_exc); (case xk_BadPoint => k_is); (case xb_BadPoint => k_is); (case xt_BadPoint => k_is); (case xd_BadPoint => k_is); (case xa_BadText => k_is); (case xe_BadText => k_exc); (case xk_BadText => k_is); (case xb_BadText => k_is); (case xt_BadText => k_is); (case xd_BadText => k_is); (case s_BadNumber_BadNumber => k_is); (case s_BadNumber_BadPoint => k_is); (case s_BadNumber_BadText => k_is); (case s_BadPoint_BadNumber => k_is); (case s_BadPoint_BadPoint => k_is); (case s_BadPoint_BadText => k_is); (case s_BadText_BadNumber => k_is); (case s_BadText_BadPoint => k_is); (case s_BadText_BadText => k_is); (case a__law_draws => k_is); (case l__law_draws => k_is); (case c__law_draws => k_is); (case k__law_draws => k_is); (case a_is_integer => k_is); (case l_is_integer => k_is); (case c_is_integer => k_is); (case k_is_integer => k_is); (case a_divisor => k_is); (case l_divisor => k_is); (case c_divisor => k_is); (case k_divisor => k_is); (case a_is_number => k_is); (case l_is_number => k_is); (case c_is_number => k_is); (case k_is_number => k_is); (case a_check_numbers => k_is); (case l_check_numbers => k_is); (case c_check_numbers => k_is); (case k_check_numbers => k_is); (case a_made => k_is); (case l_made => k_is); (case c_made => k_is); (case k_made => k_is); (case a_sum_of => k_is); (case l_sum_of => k_is); (case c_sum_of => k_is); (case k_sum_of => k_is); (case a_plus => k_is); (case l_plus => k_is); (case c_plus => k_is); (case k_plus => k_is); (case a_difference => k_is); (case l_difference => k_is); (case c_difference => k_is); (case k_difference => k_is); (case a_minus => k_is); (case l_minus => k_is); (case c_minus => k_is); (case k_minus => k_is); (case a_product => k_is); (case l_product => k_is); (case c_product => k_is); (case k_product => k_is); (case a_times => k_is); (case l_times => k_is); (case c_times => k_is); (case k_times => k_is); (case a_quotient => k_is); (case l_quotient => k_is); (case c_quotient => k_is); (case k_quotient => k_is); (case a_over => k_is); (case l_over => k_is); (case c_over => k_is); (case k_over => k_is); (case a_order => k_is); (case l_order => k_is); (case c_order => k_is); (case k_order => k_is); (case a_compare => k_is); (case l_compare => k_is); (case c_compare => k_is); (case k_compare => k_is); (case a_ratio => k_is); (case l_ratio => k_is); (case c_ratio => k_is); (case k_ratio => k_is); (case a_turned => k_is); (case l_turned => k_is); (case c_turned => k_is); (case k_turned => k_is); (case a__check_some => k_is); (case l__check_some => k_is); (case c__check_some => k_is); (case k__check_some => k_is); (case a_least_of => k_is); (case l_least_of => k_is); (case c_least_of => k_is); (case k_least_of => k_is); (case a_least_one => k_is); (case l_least_one => k_is); (case c_least_one => k_is); (case k_least_one => k_is); (case a_greatest_of => k_is); (case l_greatest_of => k_is); (case c_greatest_of => k_is); (case k_greatest_of => k_is); (case a_greatest_one => k_is); (case l_greatest_one => k_is); (case c_greatest_one => k_is); (case k_greatest_one => k_is); (case a_text_by => k_is); (case l_text_by => k_is); (case c_text_by => k_is); (case k_text_by => k_is); (case a_number_text => k_is); (case l_number_text => k_is); (case c_number_text => k_is); (case k_number_text => k_is); (case a_integer_of => k_is); (case l_integer_of => k_is); (case c_integer_of => k_is); (case k_integer_of => k_is); (case a_read_number => k_is); (case l_read_number => k_is); (case c_read_number => k_is); (case k_read_number => k_is); (case a_number_of => k_is); (case l_number_of => k_is); (case c_number_of => k_is); (case k_number_of => k_is); (case a_is_point => k_is); (case l_is_point => k_is); (case c_is_point => k_is); (case k_is_point => k_is); (case a_check_points => k_is); (case l_check_points => k_is); (case c_check_points => k_is); (case k_check_points => k_is); (case a_sum_way => k_is); (case l_sum_way => k_is); (case c_sum_way => k_is); (case k_sum_way => k_is); (case a_added => k_is); (case l_added => k_is); (case c_added => k_is); (case k_added => k_is); (case a_way_between => k_is); (case l_way_between => k_is); (case c_way_between => k_is); (case k_way_between => k_is); (case a_taken => k_is); (case l_taken => k_is); (case c_taken => k_is); (case k_taken => k_is); (case a_dot_by => k_is); (case l_dot_by => k_is); (case c_dot_by => k_is); (case k_dot_by => k_is); (case a_dot => k_is); (case l_dot => k_is); (case c_dot => k_is); (case k_dot => k_is); (case a_cross_by => k_is); (case l_cross_by => k_is); (case c_cross_by => k_is); (case k_cross_by => k_is); (case a_cross => k_is); (case l_cross => k_is); (case c_cross => k_is); (case k_cross => k_is); (case a_way_times => k_is); (case l_way_times => k_is); (case c_way_times => k_is); (case k_way_times => k_is); (case a_stretched => k_is); (case l_stretched => k_is); (case c_stretched => k_is); (case k_stretched => k_is); (case a__law_error => k_is); (case l__law_error => k_is); (case c__law_error => k_is); (case k__law_error => k_is); (case a__law_refuses => k_is); (case l__law_refuses => k_is); (case c__law_refuses => k_is); (case k__law_refuses => k_is); (case a__law_is => k_is); (case l__law_is => k_is); (case c__law_is => k_is); (case k__law_is => k_is); (case a_law => k_is); (case l_law => k_is); (case c_law => k_is); (case k_law => k_is)

