import PyProof.Rows.All
import Wide.All
import OpenK.AllK
import Wide.FinOn
import HandS.ForMost
import HandS.ForExc
import HandS.TryMany
import HandS.IsInst
import HandS.Deep
import HandS.Wide
import HandS.Zip
import HandS.TupAny
import HandS.Conv
import HandS.SortInts
import HandS.SortRule
import HandS.Flow
import HandS.Style
import HandS.RevTup
import HandS.TupSets
import HandS.ExcIs
import KE.DataFind
import KE.GoesEnum
import HandS.Strs
import HandS.NoneIn
import HandS.TupMul
import KE.KTryMore
import PySem.Challenge.RW_touchtrue_k19_boxes_told
set_option Elab.async false
set_option linter.all false
set_option maxRecDepth 100000
set_option maxHeartbeats 4000000
/-! TdCore: a layer of plain data over the hand layer: a def's body as a function of data. -/
namespace TD
open PySem PySem.Spec PyProof.Rows L2

abbrev D := PyData
/-- what an expression comes to: data, an error by its class's name, or nothing that is known -/
inductive R (α : Type) where
  | ok (a : α) | ex (x : Str) | no
def R.bind {α β : Type} : R α → (α → R β) → R β
  | .ok a, k => k a
  | .ex x, _ => .ex x
  | .no, _ => .no
@[simp] theorem R.ok_bind {α β : Type} (a : α) (k : α → R β) : (R.ok a).bind k = k a := rfl
@[simp] theorem R.ex_bind {α β : Type} (x : Str) (k : α → R β) : (R.ex x : R α).bind k = .ex x := rfl
@[simp] theorem R.no_bind {α β : Type} (k : α → R β) : (R.no : R α).bind k = .no := rfl
instance : Monad R where
  pure := R.ok
  bind := R.bind
@[simp] theorem R.pure_eq {α : Type} (a : α) : (pure a : R α) = .ok a := rfl
@[simp] theorem R.bind_eq {α β : Type} (a : R α) (k : α → R β) : (a >>= k) = a.bind k := rfl
@[simp] theorem R.map_eq {α β : Type} (a : R α) (k : α → β) : (k <$> a) = a.bind fun x => .ok (k x) := rfl

/-- the script, as a value that is read only at its own places -/
def scrD (ns : List Int) : D := .dict [(.none, .list (ns.map .int))]
/-- a tuple known to be plain (its methods may be called) -/
def ptD (ds : List D) : D := .dict [(.int 0, .tuple ds)]
/-- an object whose fields "hits" and "count" may be read -/
def lkD (hs : List D) (n : Int) : D := .dict [(.bool true, .tuple [.list hs, .int n])]
mutual
inductive Rp (K : PySem.W.Frag) (H : Hp) : V → D → Prop
  | non : Rp K H .non .none
  | bl (b : Bool) : Rp K H (.bl b) (.bool b)
  | int (i : Int) : Rp K H (.int i) (.int i)
  | str (x : Str) : Rp K H (.str x) (.str x)
  | lst {a : Addr} {xs : List V} {ds : List D} : H a = some (.lst xs) → RpAll K H xs ds → Rp K H (.ref a) (.list ds)
  | tup {a : Addr} {xs : List V} {ds : List D} : SqT K H a xs → RpAll K H xs ds → Rp K H (.ref a) (.tuple ds)
  | scr {a : Addr} {ns : List Int} : SqL K H a (ns.map V.int) → Rp K H (.ref a) (scrD ns)
  | plt {a : Addr} {o : Obj} {xs : List V} {ds : List D} : H a = some (.frz o (.tup xs)) → o.cls = .type "tuple" → o.dict = none → RpAll K H xs ds → Rp K H (.ref a) (ptD ds)
  | obj {a C dx h : Addr} {fs : List (Str × V)} {vs : List V} {hs : List D} {n : Int} : H a = some (.ins C dx fs) → Cls K C → NoAttr K C "hits" → NoAttr K C "count" → fs.lookup ("hits" : Str) = some (.ref h) → fs.lookup ("count" : Str) = some (.int n) → H h = some (.lst vs) → RpAll K H vs hs → Rp K H (.ref a) (lkD hs n)
inductive RpAll (K : PySem.W.Frag) (H : Hp) : List V → List D → Prop
  | nil : RpAll K H [] []
  | cons {v : V} {vs : List V} {d : D} {ds : List D} : Rp K H v d → RpAll K H vs ds → RpAll K H (v :: vs) (d :: ds)
end

section
variable {K : PySem.W.Frag} {H H' : Hp}
theorem Same.seqT {a : Addr} {xs : List V} (e : Same H H') (h : SqT K H a xs) : SqT K H' a xs := by
  rcases h with (h | ⟨o, h⟩) | h
  · exact .inl (.inl (e _ _ h))
  · exact .inl (.inr ⟨o, e _ _ h⟩)
  · exact .inr h
theorem pt_inv {v : V} {ds : List D} (h : Rp K H v (ptD ds)) : ∃ (a : Addr) (o : Obj) (xs : List V), v = .ref a ∧ H a = some (.frz o (.tup xs)) ∧ o.cls = .type "tuple" ∧ o.dict = none ∧ RpAll K H xs ds := by
  generalize hd : ptD ds = d at h
  cases h with
  | plt h1 h2 h3 h4 => cases hd; exact ⟨_, _, _, rfl, h1, h2, h3, h4⟩
  | scr h1 => cases hd
  | _ => cases hd
theorem lk_inv {v : V} {hs : List D} {n : Int} (q : Rp K H v (lkD hs n)) : ∃ (a C dx h : Addr) (fs : List (Str × V)) (vs : List V), v = .ref a ∧ H a = some (.ins C dx fs) ∧ Cls K C ∧ NoAttr K C "hits" ∧ NoAttr K C "count" ∧ fs.lookup ("hits" : Str) = some (.ref h) ∧ fs.lookup ("count" : Str) = some (.int n) ∧ H h = some (.lst vs) ∧ RpAll K H vs hs := by
  generalize hd : lkD hs n = d at q
  cases q with
  | obj h1 h2 h3 h4 h5 h6 h7 h8 => cases hd; exact ⟨_, _, _, _, _, _, rfl, h1, h2, h3, h4, h5, h6, h7, h8⟩
  | _ => cases hd
mutual
theorem Rp.mono (e : Same H H') : ∀ (d : D) (v : V), Rp K H v d → Rp K H' v d
  | .none, _, h => by cases h; exact .non
  | .bool _, _, h => by cases h; exact .bl _
  | .int _, _, h => by cases h; exact .int _
  | .str _, _, h => by cases h; exact .str _
  | .list ds, _, h => by
    cases h with
    | lst h1 h2 => exact .lst (e _ _ h1) (RpAll.mono e ds _ h2)
  | .tuple ds, _, h => by
    cases h with
    | tup h1 h2 => exact .tup (TD.Same.seqT e h1) (RpAll.mono e ds _ h2)
  | .dict kvs, v, h => by
    by_cases hp : ∃ ds, PyData.dict kvs = ptD ds
    · obtain ⟨ds, hp⟩ := hp
      have hlt : sizeOf ds < 1 + sizeOf kvs := by have e := congrArg sizeOf hp; simp [ptD] at e; omega
      obtain ⟨a, o, xs, rfl, h1, h2, h3, h4⟩ := pt_inv (show Rp K H v (ptD ds) from hp ▸ h)
      exact hp ▸ Rp.plt (e _ _ h1) h2 h3 (RpAll.mono e ds _ h4)
    · by_cases hp2 : ∃ hs n, PyData.dict kvs = lkD hs n
      · obtain ⟨hs, n, hp2⟩ := hp2
        have hlt : sizeOf hs < 1 + sizeOf kvs := by have e := congrArg sizeOf hp2; simp [lkD] at e; omega
        obtain ⟨a, C, dx, hh, fs, vs, rfl, h1, h2, h3, h4, h5, h6, h7, h8⟩ := lk_inv (show Rp K H v (lkD hs n) from hp2 ▸ h)
        exact hp2 ▸ Rp.obj (e _ _ h1) h2 h3 h4 h5 h6 (e _ _ h7) (RpAll.mono e hs _ h8)
      · generalize hd : PyData.dict kvs = d at h
        cases h with
        | scr h1 => exact .scr (e.seq h1)
        | plt h1 h2 h3 h4 => exact absurd ⟨_, hd⟩ hp
        | obj h1 h2 h3 h4 h5 h6 h7 h8 => exact absurd ⟨_, _, hd⟩ hp2
        | _ => cases hd
theorem RpAll.mono (e : Same H H') : ∀ (ds : List D) (vs : List V), RpAll K H vs ds → RpAll K H' vs ds
  | [], _, h => by cases h; exact .nil
  | d :: ds, _, h => by
    cases h with
    | cons h1 h2 => exact .cons (Rp.mono e d _ h1) (RpAll.mono e ds _ h2)
end
theorem Rp.up {v : V} {d : D} (h : Rp K H v d) (e : Same H H') : Rp K H' v d := Rp.mono e d v h
theorem RpAll.up {vs : List V} {ds : List D} (h : RpAll K H vs ds) (e : Same H H') : RpAll K H' vs ds := RpAll.mono e ds vs h
theorem RpAll.length : ∀ {vs : List V} {ds : List D}, RpAll K H vs ds → vs.length = ds.length
  | _, _, .nil => rfl
  | _, _, .cons _ t => by rw [List.length_cons, List.length_cons, RpAll.length t]
theorem RpAll.get : ∀ {vs : List V} {ds : List D} {i : Nat} {d : D}, RpAll K H vs ds → ds[i]? = some d → ∃ v, vs[i]? = some v ∧ Rp K H v d
  | _, _, _, _, .nil, e => by simp at e
  | _, _, 0, _, .cons r _, e => by simp at e; subst e; exact ⟨_, rfl, r⟩
  | _, _, i + 1, d, .cons _ t, e => by
    obtain ⟨v, h1, h2⟩ := RpAll.get (i := i) (d := d) t (by simpa using e)
    exact ⟨v, by simpa using h1, h2⟩
theorem RpAll.getV : ∀ {vs : List V} {ds : List D} {i : Nat} {v : V}, RpAll K H vs ds → vs[i]? = some v → ∃ d, ds[i]? = some d ∧ Rp K H v d
  | _, _, _, _, .nil, e => by simp at e
  | _, _, 0, _, .cons r _, e => by simp at e; subst e; exact ⟨_, rfl, r⟩
  | _, _, i + 1, v, .cons _ t, e => by
    obtain ⟨d, h1, h2⟩ := RpAll.getV (i := i) (v := v) t (by simpa using e)
    exact ⟨d, by simpa using h1, h2⟩
theorem RpAll.append : ∀ {xs ys : List V} {ds es : List D}, RpAll K H xs ds → RpAll K H ys es → RpAll K H (xs ++ ys) (ds ++ es)
  | _, _, _, _, .nil, s => s
  | _, _, _, _, .cons r t, s => .cons r (RpAll.append t s)
theorem RpAll.one {v : V} {d : D} (r : Rp K H v d) : RpAll K H [v] [d] := .cons r .nil
theorem RpAll.take : ∀ {xs : List V} {ds : List D} (n : Nat), RpAll K H xs ds → RpAll K H (xs.take n) (ds.take n)
  | _, _, 0, _ => .nil
  | _, _, _ + 1, .nil => .nil
  | _, _, n + 1, .cons r t => .cons r (RpAll.take n t)
theorem RpAll.drop : ∀ {xs : List V} {ds : List D} (n : Nat), RpAll K H xs ds → RpAll K H (xs.drop n) (ds.drop n)
  | _, _, 0, r => r
  | _, _, _ + 1, .nil => .nil
  | _, _, n + 1, .cons _ t => RpAll.drop n t
theorem RpAll.dropLast {xs : List V} {ds : List D} (r : RpAll K H xs ds) : RpAll K H xs.dropLast ds.dropLast := by
  rw [List.dropLast_eq_take, List.dropLast_eq_take, r.length]
  exact r.take _
theorem RpAll.reverse : ∀ {xs : List V} {ds : List D}, RpAll K H xs ds → RpAll K H xs.reverse ds.reverse
  | _, _, .nil => .nil
  | _, _, .cons r t => by rw [List.reverse_cons, List.reverse_cons]; exact (RpAll.reverse t).append (.one r)
theorem RpAll.eraseIdx : ∀ {xs : List V} {ds : List D} (i : Nat), RpAll K H xs ds → RpAll K H (xs.eraseIdx i) (ds.eraseIdx i)
  | _, _, _, .nil => .nil
  | _, _, 0, .cons _ t => t
  | _, _, i + 1, .cons r t => .cons r (RpAll.eraseIdx i t)
theorem RpAll.set {v : V} {d : D} (r : Rp K H v d) : ∀ {xs : List V} {ds : List D} (i : Nat), RpAll K H xs ds → RpAll K H (xs.set i v) (ds.set i d)
  | _, _, _, .nil => .nil
  | _, _, 0, .cons _ t => .cons r t
  | _, _, i + 1, .cons q t => .cons q (RpAll.set r i t)
theorem RpAll.ints : ∀ (ns : List Int), RpAll K H (ns.map V.int) (ns.map PyData.int)
  | [] => .nil
  | n :: ns => .cons (.int n) (RpAll.ints ns)
theorem RpAll.of_ints : ∀ {vs : List V} {ns : List Int}, RpAll K H vs (ns.map PyData.int) → vs = ns.map V.int
  | _, [], h => by cases h; rfl
  | _, n :: ns, h => by
    cases h with
    | cons h1 h2 => cases h1; rw [RpAll.of_ints h2]; rfl
theorem RpAll.of_bools : ∀ {vs : List V} {ns : List Bool}, RpAll K H vs (ns.map PyData.bool) → vs = ns.map V.bl
  | _, [], h => by cases h; rfl
  | _, n :: ns, h => by
    cases h with
    | cons h1 h2 => cases h1; rw [RpAll.of_bools h2]; rfl
mutual
/-- data without the script is the hand layer's data -/
theorem Rp.dp : ∀ (d : D) (v : V), Rp K H v d → d.canLay0 = true → Dp K H v d
  | .none, _, h, _ => by cases h; exact .non
  | .bool _, _, h, _ => by cases h; exact .bl _
  | .int _, _, h, _ => by cases h; exact .int _
  | .str _, _, h, _ => by cases h; exact .str _
  | .list ds, _, h, c => by
    cases h with
    | lst h1 h2 => exact .lst (SqL.of h1) (RpAll.dp ds _ h2 (by simpa [PyData.canLay0] using c))
  | .tuple ds, _, h, c => by
    cases h with
    | tup h1 h2 => exact .tup h1 (RpAll.dp ds _ h2 (by simpa [PyData.canLay0] using c))
  | .dict kvs, v, h, c => by simp [PyData.canLay0] at c
theorem RpAll.dp : ∀ (ds : List D) (vs : List V), RpAll K H vs ds → PyData.canLayAll0 ds = true → DpAll K H vs ds
  | [], _, h, _ => by cases h; exact .nil
  | d :: ds, _, h, c => by
    have c' : d.canLay0 = true ∧ PyData.canLayAll0 ds = true := by simpa [PyData.canLayAll0] using c
    cases h with
    | cons h1 h2 => exact .cons (Rp.dp d _ h1 c'.1) (RpAll.dp ds _ h2 c'.2)
end
end

/-! ### heaps that grow -/
/-- G: what is settled (never changes again); H: all that is tracked -/
structure Ext (G0 H0 G H : Hp) : Prop where
  sub : Same G H
  hh : Same H0 H
  gg : Same G0 G
  fr : ∀ p, G0 p = none → G p ≠ none → H0 p = none
theorem Ext.refl {G H : Hp} (h : Same G H) : Ext G H G H := ⟨h, .refl _, .refl _, fun _ a b => absurd a b⟩
theorem Ext.trans {G0 H0 G1 H1 G2 H2 : Hp} (a : Ext G0 H0 G1 H1) (b : Ext G1 H1 G2 H2) : Ext G0 H0 G2 H2 := by
  refine ⟨b.sub, a.hh.trans b.hh, a.gg.trans b.gg, fun p h1 h2 => ?_⟩
  by_cases h : G1 p = none
  · exact a.hh.free (b.fr p h h2)
  · exact a.fr p h1 h
theorem same_upd {H : Hp} {p : Addr} {o : HO} (h : H p = none) : Same H (upd H p o) := fun b x e => by
  rw [upd_ne (ne_of_none e h)]
  exact e
theorem same_upd2 {G H : Hp} {p : Addr} {o : HO} (h : Same G H) : Same (upd G p o) (upd H p o) := fun b x e => by
  by_cases hb : b = p
  · subst hb; rw [upd_same] at e ⊢; exact e
  · rw [upd_ne hb] at e ⊢; exact h b x e
theorem Ext.new {G H : Hp} {p : Addr} {o : HO} (h : Same G H) (hp : H p = none) : Ext G H (upd G p o) (upd H p o) := by
  refine ⟨same_upd2 h, same_upd hp, same_upd (h.free hp), fun q h1 h2 => ?_⟩
  by_cases hq : q = p
  · subst hq; exact hp
  · rw [upd_ne hq] at h2; exact absurd h1 h2

/-! ### expressions -/
/-- a name's place: settled data, or a list of the body's own that nothing else holds -/
inductive Sl where
  | pu (d : D) | ow (ds : List D)
abbrev EnvS := List (Option Sl)
structure EnvE (K : PySem.W.Frag) (G H : Hp) (σ : L2.St) (ρ : EnvS) : Prop where
  pu : ∀ (i : Nat) (d : D), ρ[i]? = some (some (.pu d)) → ∃ v, σ[i]? = some (some v) ∧ Rp K G v d
  ow : ∀ (i : Nat) (ds : List D), ρ[i]? = some (some (.ow ds)) → ∃ p vs, σ[i]? = some (some (.ref p)) ∧ H p = some (.lst vs) ∧ G p = none ∧ RpAll K G vs ds
  len : σ.length = ρ.length
theorem EnvE.up {K : PySem.W.Frag} {G H G' H' : Hp} {σ : L2.St} {ρ : EnvS} (h : EnvE K G H σ ρ) (e : Ext G H G' H') : EnvE K G' H' σ ρ := by
  refine ⟨fun i d q => ?_, fun i ds q => ?_, h.len⟩
  · obtain ⟨v, h1, h2⟩ := h.pu i d q
    exact ⟨v, h1, h2.up e.gg⟩
  · obtain ⟨p, vs, h1, h2, h3, h4⟩ := h.ow i ds q
    refine ⟨p, vs, h1, e.hh _ _ h2, ?_, h4.up e.gg⟩
    by_cases hp : G' p = none
    · exact hp
    · rw [e.fr p h3 hp] at h2; cases h2

/-- what is wanted behind: of the data's values, or of an error -/
def Post {α υ : Type} (rp : Hp → υ → α → Prop) (Wx : Str → Hp → Prop) (G H : Hp) (r : R α) (Q : υ → Hp → Prop) : Prop :=
  match r with
  | .ok a => ∀ v G' H', Ext G H G' H' → rp G' v a → Q v H'
  | .ex x => ∀ G' H', Ext G H G' H' → Wx x H'
  | .no => False
theorem Post.later {α υ : Type} {rp : Hp → υ → α → Prop} {Wx : Str → Hp → Prop} {G H G1 H1 : Hp} {r : R α} {Q : υ → Hp → Prop} (h : Post rp Wx G H r Q) (e : Ext G H G1 H1) : Post rp Wx G1 H1 r Q := by
  cases r with
  | ok a => exact fun v G' H' e' => h v G' H' (e.trans e')
  | ex x => exact fun G' H' e' => h G' H' (e.trans e')
  | no => exact h
theorem Post.mono {α υ : Type} {rp : Hp → υ → α → Prop} {Wx : Str → Hp → Prop} {G H : Hp} {r : R α} {Q Q' : υ → Hp → Prop} (h : Post rp Wx G H r Q) (q : ∀ v H', Q v H' → Q' v H') : Post rp Wx G H r Q' := by
  cases r with
  | ok a => exact fun v G' H' e' r => q _ _ (h v G' H' e' r)
  | ex x => exact h
  | no => exact h

abbrev rpE (K : PySem.W.Frag) : Hp → V → D → Prop := fun G v d => Rp K G v d
abbrev rpB : Hp → Bool → Bool → Prop := fun _ a b => a = b
abbrev rpL (K : PySem.W.Frag) : Hp → List V → List D → Prop := fun G v d => RpAll K G v d
abbrev Wxo (mg : Str → Option Value) (W : WX) (σ : L2.St) : Str → Hp → Prop := fun x H => ∀ c, mg x = some c → W c none σ H

def tD {α υ : Type} (K : PySem.W.Frag) (mg : Str → Option Value) (W : WX) (rp : Hp → υ → α → Prop) (f : EnvS → R α) : L2.St → Hp → (υ → Hp → Prop) → Prop := fun σ H Q =>
  ∃ G ρ, Same G H ∧ EnvE K G H σ ρ ∧ Post rp (Wxo mg W σ) G H (f ρ) Q
abbrev PD (X : Cx) (W : WX) (e : Expr) (f : EnvS → R D) : Prop := PE X e (tD X.K X.mg W (rpE X.K) f)
abbrev PTD (X : Cx) (W : WX) (e : Expr) (f : EnvS → R Bool) : Prop := PT X e (tD X.K X.mg W rpB f)
abbrev PWD (X : Cx) (W : WX) (e : Expr) (f : EnvS → R Bool) : Prop := PW X e (tD X.K X.mg W rpB f)
abbrev PAD (X : Cx) (W : WX) (es : List Expr) (f : EnvS → R (List D)) : Prop := PA X es (tD X.K X.mg W (rpL X.K) f)

theorem _root_.L2.PE.wk {X : Cx} {e : Expr} {t t' : TE} (h : PE X e t) (w : ∀ σ H Q, t' σ H Q → t σ H Q) : PE X e t' := ⟨fun pins s σ H Q I q => h.run pins s σ H Q I (w σ H Q q)⟩
theorem _root_.L2.PT.wk {X : Cx} {e : Expr} {t t' : TT} (h : PT X e t) (w : ∀ σ H Q, t' σ H Q → t σ H Q) : PT X e t' := ⟨fun pins s σ H Q I q => h.run pins s σ H Q I (w σ H Q q)⟩
theorem _root_.L2.PW.wk {X : Cx} {e : Expr} {t t' : TT} (h : PW X e t) (w : ∀ σ H Q, t' σ H Q → t σ H Q) : PW X e t' := ⟨fun wh pins s σ H Q I q => h.run wh pins s σ H Q I (w σ H Q q)⟩
theorem _root_.L2.PA.wk {X : Cx} {es : List Expr} {t t' : TA} (h : PA X es t) (w : ∀ σ H Q, t' σ H Q → t σ H Q) : PA X es t' := ⟨fun pos pins s σ H Q I q => h.run pos pins s σ H Q I (w σ H Q q)⟩
theorem _root_.L2.PS.wk {X : Cx} {e : Stmt} {t t' : TS} (h : PS X e t) (w : ∀ D σ H, t' D σ H → t D σ H) : PS X e t' := ⟨fun pins s σ H D I q => h.run pins s σ H D I (w D σ H q)⟩
theorem _root_.L2.PSs.wk {X : Cx} {e : List Stmt} {t t' : TS} (h : PSs X e t) (w : ∀ D σ H, t' D σ H → t D σ H) : PSs X e t' := ⟨fun pins s σ H D I q => h.run pins s σ H D I (w D σ H q)⟩

section
variable {K : PySem.W.Frag} {mg : Str → Option Value} {W : WX} {σ : L2.St} {ρ : EnvS} {G H : Hp}
/-- the first part of a sequence -/
theorem Post.seq {α β υ ω : Type} {rp : Hp → υ → α → Prop} {rq : Hp → ω → β → Prop} {f : EnvS → R α} {k : α → R β} {Q : ω → Hp → Prop} {Q1 : υ → Hp → Prop}
    (h : Post rq (Wxo mg W σ) G H ((f ρ).bind k) Q) (hs : Same G H) (he : EnvE K G H σ ρ)
    (q : ∀ a v G1 H1, f ρ = .ok a → Ext G H G1 H1 → rp G1 v a → EnvE K G1 H1 σ ρ → Post rq (Wxo mg W σ) G1 H1 (k a) Q → Q1 v H1) : tD K mg W rp f σ H Q1 := by
  refine ⟨G, ρ, hs, he, ?_⟩
  cases e : f ρ with
  | ok a =>
    rw [e] at h
    intro v G1 H1 e1 r1
    exact q a v G1 H1 e e1 r1 (he.up e1) (Post.later h e1)
  | ex x =>
    rw [e] at h
    exact h
  | no =>
    rw [e] at h
    exact h.elim
theorem Post.done {α υ : Type} {rp : Hp → υ → α → Prop} {Wx : Str → Hp → Prop} {a : α} {v : υ} {Q : υ → Hp → Prop} (h : Post rp Wx G H (.ok a) Q) (hs : Same G H) (r : rp G v a) : Q v H := h v G H (.refl hs) r
end

/-! ### names and constants -/
def varD (i : Nat) : EnvS → R D := fun ρ => match ρ[i]? with
  | some (some (.pu d)) => .ok d
  | _ => .no
def cD (d : D) : EnvS → R D := fun _ => .ok d
section
variable {X : Cx} {W : WX}
theorem d_var (i : Nat) {x : Str} {pos : Pos} (hN : X.N[i]? = some x := by rfl) (hv : Vis X.env.scope x := by first | exact Or.inl rfl | exact Or.inr (Or.inl rfl) | exact Or.inr (Or.inr rfl)) (hd : (x == ("__debug__" : Str)) = false := by decide)
    (hcd : (x == ("__classdict__" : Str)) = false := by decide) : PD X W (.Name x pos) (varD i) := (pe_var hN hv hd hcd).wk fun σ H Q ⟨G, ρ, hs, he, q⟩ => by
  unfold varD at q
  cases e : ρ[i]? with
  | none => rw [e] at q; exact q.elim
  | some o =>
    cases o with
    | none => rw [e] at q; exact q.elim
    | some d =>
      cases d with
      | ow ds => rw [e] at q; exact q.elim
      | pu d =>
        rw [e] at q
        obtain ⟨v, h1, h2⟩ := he.pu i d e
        exact ⟨v, h1, q.done hs h2⟩
theorem d_int {i j pos} : PD X W (.Constant (.int i) j pos) (cD (.int i)) := pe_int.wk fun σ H Q ⟨G, ρ, hs, he, q⟩ => Post.done q hs (.int i)
theorem d_bl {b j pos} : PD X W (.Constant (.bool b) j pos) (cD (.bool b)) := pe_bl.wk fun σ H Q ⟨G, ρ, hs, he, q⟩ => Post.done q hs (.bl b)
theorem d_non {j pos} : PD X W (.Constant .none j pos) (cD .none) := pe_non.wk fun σ H Q ⟨G, ρ, hs, he, q⟩ => Post.done q hs .non
theorem d_str {x j pos} : PD X W (.Constant (.str x) j pos) (cD (.str x)) := pe_str.wk fun σ H Q ⟨G, ρ, hs, he, q⟩ => Post.done q hs (.str x)
/-- a constant of the module: v is its value -/
theorem d_glob {x : Str} {v : V} {u : Value} {d : D} {pos : Pos} (hg : Gl X x) (hm : X.mg x = some u) (r : RelV v u) (hr : ∀ G, Rp X.K G v d) (hd : (x == ("__debug__" : Str)) = false := by decide) : PD X W (.Name x pos) (cD d) :=
  (pe_glob hg hm r hd).wk fun σ H Q ⟨G, ρ, hs, he, q⟩ => Post.done q hs (hr G)

/-! ### operators -/
def bin2 (k : D → D → R D) (f g : EnvS → R D) : EnvS → R D := fun ρ => (f ρ).bind fun a => (g ρ).bind fun b => k a b
def un1 (k : D → R D) (f : EnvS → R D) : EnvS → R D := fun ρ => (f ρ).bind k
/-- an operator's reading serves a function of data -/
def OpD (X : Cx) (r : R2) (k : D → D → R D) : Prop := ∀ (a b : D) (x y : V) (G H : Hp) (Wx : Str → Hp → Prop) (Q : VK), Same G H → Rp X.K G x a → Rp X.K G y b → Post (rpE X.K) Wx G H (k a b) Q → r x y H Q
theorem tOpD {r : R2} {k : D → D → R D} {f g : EnvS → R D} (hr : OpD X r k) {σ : L2.St} {H : Hp} {Q : VK} (h : tD X.K X.mg W (rpE X.K) (bin2 k f g) σ H Q) : tOp r (tD X.K X.mg W (rpE X.K) f) (tD X.K X.mg W (rpE X.K) g) σ H Q := by
  obtain ⟨G, ρ, hs, he, q⟩ := h
  refine Post.seq q hs he fun a v G1 H1 _ e1 r1 he1 q1 => ?_
  refine Post.seq q1 e1.sub he1 fun b u G2 H2 _ e2 r2 he2 q2 => ?_
  exact hr a b v u G2 H2 _ Q e2.sub (Rp.up r1 e2.gg) r2 q2
theorem d_op {op : Operator} {a b : Expr} {pos : Pos} {r : R2} {k : D → D → R D} {f g : EnvS → R D} (ho : OpR X (binaryOp op) r) (hr : OpD X r k) (ha : PD X W a f) (hb : PD X W b g) : PD X W (.BinOp a op b pos) (bin2 k f g) :=
  (pe_op ho ha hb).wk fun _ _ _ h => tOpD hr h
theorem d_cmp {op : CmpOp} {a b : Expr} {pos : Pos} {r : R2} {k : D → D → R D} {f g : EnvS → R D} (ho : OpR X (compareOp op) r) (hr : OpD X r k) (ha : PD X W a f) (hb : PD X W b g) (hm : behindInMarks op b = false) : PD X W (.Compare a [op] [b] pos) (bin2 k f g) :=
  (pe_cmpR ho ha hb hm).wk fun _ _ _ h => tOpD hr h
/-- data that is a truth value -/
def asB (r : R D) : R Bool := r.bind fun d => match d with
  | .bool b => .ok b
  | _ => .no
abbrev asF (f : EnvS → R D) : EnvS → R Bool := fun ρ => asB (f ρ)
theorem tTestD {f : EnvS → R D} {t : TE} {σ : L2.St} {H : Hp} {Q : Bool → Hp → Prop} (h : tD X.K X.mg W rpB (fun ρ => asB (f ρ)) σ H Q) (ht : ∀ Q', tD X.K X.mg W (rpE X.K) f σ H Q' → t σ H Q') : tTest t σ H Q := by
  obtain ⟨G, ρ, hs, he, q⟩ := h
  refine ht _ (Post.seq q hs he fun a v G1 H1 _ e1 r1 he1 q1 => ?_)
  cases a with
  | bool b =>
    cases r1
    exact ⟨b, rfl, Post.done (rp := rpB) (v := b) q1 e1.sub rfl⟩
  | _ => exact q1.elim
theorem dt_cmp {op : CmpOp} {a b : Expr} {pos : Pos} {r : R2} {k : D → D → R D} {f g : EnvS → R D} (ho : OpR X (compareOp op) r) (hr : OpD X r k) (ha : PD X W a f) (hb : PD X W b g) (hm : behindInMarks op b = false) : PTD X W (.Compare a [op] [b] pos) (fun ρ => asB (bin2 k f g ρ)) :=
  (pt_cmpR ho ha hb hm).wk fun _ _ _ h => tTestD h fun _ h' => tOpD hr h'
theorem dt_val {e : Expr} {f : EnvS → R D} (h : PD X W e f) (he : ∀ whole, isTrue e X.env whole = (do let v ← whole; standAt e.pos; holding [v] (truthy v)) := by intro _; rfl) : PTD X W e (fun ρ => asB (f ρ)) :=
  (pt_val h he).wk fun _ _ _ q => tTestD q fun _ q' => q'
def bTest (k : Bool → R Bool) (f : EnvS → R Bool) : EnvS → R Bool := fun ρ => (f ρ).bind k
def notB (f : EnvS → R Bool) : EnvS → R Bool := fun ρ => (f ρ).bind fun b => .ok (!b)
def andB (f g : EnvS → R Bool) : EnvS → R Bool := fun ρ => (f ρ).bind fun b => if b = true then g ρ else .ok false
def orB (f g : EnvS → R Bool) : EnvS → R Bool := fun ρ => (f ρ).bind fun b => if b = true then .ok true else g ρ
theorem dt_not {a : Expr} {pos : Pos} {f : EnvS → R Bool} (h : PTD X W a f) : PTD X W (.UnaryOp .Not a pos) (notB f) := (pt_not h).wk fun σ H Q ⟨G, ρ, hs, he, q⟩ =>
  Post.seq q hs he fun a v G1 H1 _ e1 r1 he1 q1 => Post.done (rp := rpB) (v := !v) q1 e1.sub (by subst r1; rfl)
theorem dw_and1 {a : Expr} {pos : Pos} {f : EnvS → R Bool} (h : PTD X W a f) : PWD X W (.BoolOp .And [a] pos) f := pw_and1 h
theorem dw_or1 {a : Expr} {pos : Pos} {f : EnvS → R Bool} (h : PTD X W a f) : PWD X W (.BoolOp .Or [a] pos) f := pw_or1 h
theorem dw_and {a b : Expr} {rest : List Expr} {pos : Pos} {f g : EnvS → R Bool} (ha : PTD X W a f) (hb : PWD X W (.BoolOp .And (b :: rest) pos) g) : PWD X W (.BoolOp .And (a :: b :: rest) pos) (andB f g) := (pw_and ha hb).wk fun σ H Q ⟨G, ρ, hs, he, q⟩ =>
  Post.seq q hs he fun a v G1 H1 _ e1 r1 he1 q1 => by
    cases r1
    cases a with
    | true => exact ⟨G1, ρ, e1.sub, he1, q1⟩
    | false => exact Post.done (rp := rpB) (v := false) q1 e1.sub rfl
theorem dw_or {a b : Expr} {rest : List Expr} {pos : Pos} {f g : EnvS → R Bool} (ha : PTD X W a f) (hb : PWD X W (.BoolOp .Or (b :: rest) pos) g) : PWD X W (.BoolOp .Or (a :: b :: rest) pos) (orB f g) := (pw_or ha hb).wk fun σ H Q ⟨G, ρ, hs, he, q⟩ =>
  Post.seq q hs he fun a v G1 H1 _ e1 r1 he1 q1 => by
    cases r1
    cases a with
    | true => exact Post.done (rp := rpB) (v := true) q1 e1.sub rfl
    | false => exact ⟨G1, ρ, e1.sub, he1, q1⟩
theorem dt_w {e : Expr} {f : EnvS → R Bool} (h : PWD X W e f) : PTD X W e f := h.pt
/-- and, or, not as values: all but the last a truth value -/
def andV (f g : EnvS → R D) : EnvS → R D := fun ρ => (asB (f ρ)).bind fun b => if b = true then g ρ else .ok (.bool false)
def orV (f g : EnvS → R D) : EnvS → R D := fun ρ => (asB (f ρ)).bind fun b => if b = true then .ok (.bool true) else g ρ
def notV (f : EnvS → R D) : EnvS → R D := fun ρ => (asB (f ρ)).bind fun b => .ok (.bool !b)
theorem asB_bind {β : Type} (r : R D) (k : Bool → R β) : (asB r).bind k = r.bind fun d => (match d with | .bool b => R.ok b | _ => R.no).bind k := by
  cases r <;> rfl
theorem d_one {op} {a : Expr} {pos : Pos} {f : EnvS → R D} (h : PD X W a f) : PD X W (.BoolOp op [a] pos) f := pe_one h
theorem d_and {a b : Expr} {rest : List Expr} {pos : Pos} {f g : EnvS → R D} (ha : PD X W a f) (hb : PD X W (.BoolOp .And (b :: rest) pos) g) : PD X W (.BoolOp .And (a :: b :: rest) pos) (andV f g) := (pe_and ha hb).wk fun σ H Q ⟨G, ρ, hs, he, q⟩ => by
  unfold andV at q
  rw [asB_bind] at q
  refine Post.seq q hs he fun a v G1 H1 _ e1 r1 he1 q1 => ?_
  cases a with
  | bool b =>
    cases r1
    refine ⟨b, rfl, ?_⟩
    cases b with
    | true => exact ⟨G1, ρ, e1.sub, he1, q1⟩
    | false => exact Post.done (rp := rpE X.K) q1 e1.sub (.bl false)
  | _ => exact q1.elim
theorem d_or {a b : Expr} {rest : List Expr} {pos : Pos} {f g : EnvS → R D} (ha : PD X W a f) (hb : PD X W (.BoolOp .Or (b :: rest) pos) g) : PD X W (.BoolOp .Or (a :: b :: rest) pos) (orV f g) := (pe_or ha hb).wk fun σ H Q ⟨G, ρ, hs, he, q⟩ => by
  unfold orV at q
  rw [asB_bind] at q
  refine Post.seq q hs he fun a v G1 H1 _ e1 r1 he1 q1 => ?_
  cases a with
  | bool b =>
    cases r1
    refine ⟨b, rfl, ?_⟩
    cases b with
    | true => exact Post.done (rp := rpE X.K) q1 e1.sub (.bl true)
    | false => exact ⟨G1, ρ, e1.sub, he1, q1⟩
  | _ => exact q1.elim
theorem d_not {a : Expr} {pos : Pos} {f : EnvS → R D} (h : PD X W a f) : PD X W (.UnaryOp .Not a pos) (notV f) := (pe_not h).wk fun σ H Q ⟨G, ρ, hs, he, q⟩ => by
  unfold notV at q
  rw [asB_bind] at q
  refine Post.seq q hs he fun a v G1 H1 _ e1 r1 he1 q1 => ?_
  cases a with
  | bool b =>
    cases r1
    exact ⟨b, rfl, Post.done (rp := rpE X.K) q1 e1.sub (.bl _)⟩
  | _ => exact q1.elim
def ifD (c : EnvS → R Bool) (f g : EnvS → R D) : EnvS → R D := fun ρ => (c ρ).bind fun b => if b = true then f ρ else g ρ
theorem d_if {c a b : Expr} {pos : Pos} {t : EnvS → R Bool} {f g : EnvS → R D} (hc : PTD X W c t) (ha : PD X W a f) (hb : PD X W b g) : PD X W (.IfExp c a b pos) (ifD t f g) := (pe_ifExp hc ha hb).wk fun σ H Q ⟨G, ρ, hs, he, q⟩ =>
  Post.seq q hs he fun a v G1 H1 _ e1 r1 he1 q1 => by
    cases r1
    cases a with
    | true => exact ⟨G1, ρ, e1.sub, he1, q1⟩
    | false => exact ⟨G1, ρ, e1.sub, he1, q1⟩
/-- a unary operator -/
def UnD (X : Cx) (r : V → Hp → VK → Prop) (k : D → R D) : Prop := ∀ (a : D) (x : V) (G H : Hp) (Wx : Str → Hp → Prop) (Q : VK), Same G H → Rp X.K G x a → Post (rpE X.K) Wx G H (k a) Q → r x H Q
theorem d_un {op : UnaryOp} {a : Expr} {pos : Pos} {r : V → Hp → VK → Prop} {k : D → R D} {f : EnvS → R D} (ho : UnR X (unaryOp op) r) (hr : UnD X r k) (ha : PD X W a f) : PD X W (.UnaryOp op a pos) (un1 k f) := (pe_un ho ha).wk fun σ H Q ⟨G, ρ, hs, he, q⟩ =>
  Post.seq q hs he fun a v G1 H1 _ e1 r1 he1 q1 => hr a v G1 H1 _ Q e1.sub r1 q1
/-- a chain of two comparisons -/
def chD (k k' : D → D → R D) (f g h : EnvS → R D) : EnvS → R D := fun ρ => (f ρ).bind fun a => (g ρ).bind fun b => (k a b).bind fun c => match c with
  | .bool true => (h ρ).bind fun d => k' b d
  | .bool false => .ok (.bool false)
  | _ => .no
end
end TD

/-! TdOps: operators, subscripts, displays, calls of built-ins, over data. -/
namespace TD
open PySem PySem.Spec PyProof.Rows L2
def lineOk (n : Nat) : Bool := decide (n ≤ 16777216)
theorem lineOk_le {n : Nat} (h : lineOk n = true) : n ≤ sizeLine := by rw [sizeLine_eq]; exact of_decide_eq_true h
def mulOk (a b : Int) : Bool := decide (a.natAbs.log2 + b.natAbs.log2 < 1000000)
def divOk (b : Int) : Bool := decide (b ≠ 0) && decide (b.natAbs.log2 < 9000)
def intsOf : List D → Option (List Int)
  | [] => some []
  | .int i :: r => (intsOf r).map (i :: ·)
  | _ :: _ => none
theorem intsOf_map : ∀ ns : List Int, intsOf (ns.map PyData.int) = some ns
  | [] => rfl
  | n :: r => by show (intsOf (r.map PyData.int)).map (n :: ·) = _; rw [intsOf_map r]; rfl
theorem intsOf_some : ∀ {ds : List D} {ns : List Int}, intsOf ds = some ns → ds = ns.map PyData.int
  | [], ns, h => by cases h; rfl
  | .int i :: r, ns, h => by
    unfold intsOf at h
    cases e : intsOf r with
    | none => rw [e] at h; cases h
    | some ms => rw [e] at h; cases h; rw [intsOf_some e]; rfl
  | .none :: r, ns, h => by cases h
  | .bool _ :: r, ns, h => by cases h
  | .str _ :: r, ns, h => by cases h
  | .list _ :: r, ns, h => by cases h
  | .tuple _ :: r, ns, h => by cases h
  | .dict _ :: r, ns, h => by cases h
def boolsOf : List D → Option (List Bool)
  | [] => some []
  | .bool i :: r => (boolsOf r).map (i :: ·)
  | _ :: _ => none
theorem boolsOf_map : ∀ ns : List Bool, boolsOf (ns.map PyData.bool) = some ns
  | [] => rfl
  | n :: r => by show (boolsOf (r.map PyData.bool)).map (n :: ·) = _; rw [boolsOf_map r]; rfl
theorem boolsOf_some : ∀ {ds : List D} {ns : List Bool}, boolsOf ds = some ns → ds = ns.map PyData.bool
  | [], ns, h => by cases h; rfl
  | .bool i :: r, ns, h => by
    unfold boolsOf at h
    cases e : boolsOf r with
    | none => rw [e] at h; cases h
    | some ms => rw [e] at h; cases h; rw [boolsOf_some e]; rfl
  | .none :: r, ns, h => by cases h
  | .int _ :: r, ns, h => by cases h
  | .str _ :: r, ns, h => by cases h
  | .list _ :: r, ns, h => by cases h
  | .tuple _ :: r, ns, h => by cases h
  | .dict _ :: r, ns, h => by cases h

/-! ### the functions -/
def addD : D → D → R D
  | .int a, .int b => .ok (.int (a + b))
  | .str a, .str b => if lineOk (a.length + b.length) then .ok (.str (a ++ b)) else .no
  | .list a, .list b => if lineOk (a.length + b.length) then .ok (.list (a ++ b)) else .no
  | .tuple a, .tuple b => if lineOk (a.length + b.length) then .ok (.tuple (a ++ b)) else .no
  | _, _ => .no
def subD : D → D → R D
  | .int a, .int b => .ok (.int (a - b))
  | _, _ => .no
def mulD : D → D → R D
  | .int a, .int b => if mulOk a b then .ok (.int (a * b)) else .no
  | _, _ => .no
def fdivD : D → D → R D
  | .int a, .int b => if divOk b then .ok (.int (a.fdiv b)) else .no
  | _, _ => .no
def modD : D → D → R D
  | .int a, .int b => if decide (b ≠ 0) then .ok (.int (a.fmod b)) else .no
  | _, _ => .no
def powD : D → D → R D
  | .int a, .int b => if decide (0 ≤ b ∧ b ≤ 1000000 ∧ a.natAbs < 18446744073709551616) then .ok (.int (a ^ b.toNat)) else .no
  | _, _ => .no
def negD : D → R D
  | .int a => .ok (.int (-a))
  | _ => .no
def okD (d : D) : Bool := SeqAt.shaped d
def eqD (a b : D) : R D := if okD a && okD b then .ok (.bool (PyData.eqv a b)) else .no
def neD (a b : D) : R D := if okD a && okD b then .ok (.bool (!PyData.eqv a b)) else .no
def ltD : D → D → R D
  | .int a, .int b => .ok (.bool (decide (a < b)))
  | .str a, .str b => .ok (.bool (decide (a.cps.toList < b.cps.toList)))
  | .tuple a, .tuple b => match intsOf a, intsOf b with
    | some x, some y => .ok (.bool (HT.lexLt x y))
    | _, _ => .no
  | _, _ => .no
def leD : D → D → R D
  | .int a, .int b => .ok (.bool (decide (a ≤ b)))
  | _, _ => .no
def gtD : D → D → R D
  | .int a, .int b => .ok (.bool (decide (b < a)))
  | _, _ => .no
def geD : D → D → R D
  | .int a, .int b => .ok (.bool (decide (b ≤ a)))
  | _, _ => .no
def isND : D → D → R D
  | .none, .none => .ok (.bool true)
  | _, .none => .ok (.bool false)
  | _, _ => .no
def notND : D → D → R D
  | .none, .none => .ok (.bool false)
  | _, .none => .ok (.bool true)
  | _, _ => .no
def flatD : D → Bool
  | .none => true | .bool _ => true | .int _ => true | .str _ => true | _ => false
def inD (a : D) : D → R D
  | .list ds => if okD a && okD (.list ds) then .ok (.bool (ds.any fun z => PyData.eqv z a)) else .no
  | .str t => match a with
    | .str s => .ok (.bool (!(Builtin.Str.occurrences t s 0 t.length 1).isEmpty))
    | _ => .no
  | _ => .no
def notInD (a : D) : D → R D
  | .list ds => if okD a && okD (.list ds) then .ok (.bool (!ds.any fun z => PyData.eqv z a)) else .no
  | .str t => match a with
    | .str s => .ok (.bool (!(!(Builtin.Str.occurrences t s 0 t.length 1).isEmpty)))
    | _ => .no
  | _ => .no
/-- an item, from the end below 0 -/
def atD {α : Type} (ds : List α) (i : Int) : Option α := if 0 ≤ i then ds[i.toNat]? else if -(ds.length : Int) ≤ i then ds[(i + ds.length).toNat]? else none
def optR {α : Type} : Option α → R α
  | some a => .ok a
  | none => .no
def ixD : D → D → R D
  | .list ds, .int i => optR (atD ds i)
  | .tuple ds, .int i => optR (atD ds i)
  | .str z, .int i => if lineOk z.length then (optR (atD z.cps.toList i)).bind fun c => .ok (.str ⟨#[c]⟩) else .no
  | _, _ => .no
theorem atD_at {α : Type} {ds : List α} {i : Int} {d : α} (h : atD ds i = some d) : ∃ j, ixN ds.length i = some j ∧ ds[j]? = some d := by
  unfold atD at h
  unfold ixN
  split at h
  · rename_i h0
    rw [if_pos h0]
    have hl := List.getElem?_eq_some_iff.mp h
    obtain ⟨hj, _⟩ := hl
    rw [if_pos (by omega)]
    exact ⟨_, rfl, h⟩
  · rename_i h0
    rw [if_neg h0]
    split at h
    · rename_i h1
      rw [if_pos h1]
      exact ⟨_, rfl, h⟩
    · cases h
def cutD {α : Type} (xs : List α) (lo hi : Option Int) : List α := (xs.drop (HT.sIx xs.length 0 lo)).take (HT.sIx xs.length xs.length hi - HT.sIx xs.length 0 lo)

/-! ### ints, comparisons -/
section
variable {X : Cx}
theorem OpD.or {r r' : R2} {k : D → D → R D} (h : ∀ (a b : D) (x y : V) (G H : Hp) (Wx : Str → Hp → Prop) (Q : VK), Same G H → Rp X.K G x a → Rp X.K G y b → Post (rpE X.K) Wx G H (k a b) Q → r x y H Q ∨ r' x y H Q) : OpD X (fun x y H Q => r x y H Q ∨ r' x y H Q) k := h
theorem Rp.seqT {K : PySem.W.Frag} {G H : Hp} {v : V} {ds : List D} (h : Rp K G v (.tuple ds)) (hs : Same G H) : ∃ a xs, v = .ref a ∧ SqT K H a xs ∧ SqT K G a xs ∧ RpAll K G xs ds := by
  cases h with
  | tup h1 h2 => exact ⟨_, _, rfl, TD.Same.seqT hs h1, h1, h2⟩
theorem Rp.seqL {K : PySem.W.Frag} {G H : Hp} {v : V} {ds : List D} (h : Rp K G v (.list ds)) (hs : Same G H) : ∃ a xs, v = .ref a ∧ H a = some (.lst xs) ∧ G a = some (.lst xs) ∧ RpAll K G xs ds := by
  cases h with
  | lst h1 h2 => exact ⟨_, _, rfl, hs _ _ h1, h1, h2⟩
def rAddAll (K : PySem.W.Frag) : R2 := fun x y H Q => (rI0 fun i j => .int (i + j)) x y H Q ∨ ((fun x y H Q => ∃ i j, x = .str i ∧ y = .str j ∧ i.length + j.length ≤ sizeLine ∧ Q (.str (i ++ j)) H) x y H Q ∨ (rCat x y H Q ∨ rCatA K x y H Q))
theorem or_add : OpR X (binaryOp .Add) (rAddAll X.K) := op_add.or (op_add_str.or (op_cat.or op_catA))
theorem od_add : OpD X (rAddAll X.K) addD := by
  intro a b x y G H Wx Q hs ra rb q
  unfold addD at q
  split at q
  · cases ra; cases rb
    exact .inl ⟨_, _, rfl, rfl, q.done hs (.int _)⟩
  · cases ra; cases rb
    split at q
    · rename_i h
      exact .inr (.inl ⟨_, _, rfl, rfl, lineOk_le h, q.done hs (.str _)⟩)
    · exact q.elim
  · split at q
    · rename_i h
      obtain ⟨l, xs, rfl, h1, g1, p1⟩ := ra.seqL hs
      obtain ⟨l2, ys, rfl, h2, g2, p2⟩ := rb.seqL hs
      refine .inr (.inr (.inl ⟨l, l2, xs, ys, rfl, rfl, h1, h2, by rw [p1.length, p2.length]; exact lineOk_le h, fun p hp => ?_⟩))
      have e := Ext.new (o := .lst (xs ++ ys)) hs hp
      exact q _ _ _ e (.lst upd_same ((p1.append p2).up e.gg))
    · exact q.elim
  · split at q
    · rename_i h
      obtain ⟨l, xs, rfl, h1, g1, p1⟩ := ra.seqT hs
      obtain ⟨l2, ys, rfl, h2, g2, p2⟩ := rb.seqT hs
      refine .inr (.inr (.inr ⟨l, l2, xs, ys, rfl, rfl, h1, h2, by rw [p1.length, p2.length]; exact lineOk_le h, fun e => ?_, fun _ e => ?_, fun _ _ p hp => ?_⟩))
      · subst e
        cases p1
        exact q.done hs rb
      · subst e
        cases p2
        rw [List.append_nil] at q
        exact q.done hs ra
      · have e := Ext.new (o := .tup (xs ++ ys)) hs hp
        exact q _ _ _ e (.tup (SqT.of upd_same) ((p1.append p2).up e.gg))
    · exact q.elim
  · exact q.elim
theorem od_int {r : R2} {k : D → D → R D} {C : Int → Int → Prop} {g : Int → Int → V} {gd : Int → Int → D} (hr : r = rI C g) (hg : ∀ i j K G, Rp K G (g i j) (gd i j))
    (hk : ∀ a b, (∃ i j, a = .int i ∧ b = .int j ∧ (k a b = .no ∨ (C i j ∧ k a b = .ok (gd i j)))) ∨ k a b = .no) : OpD X r k := by
  intro a b x y G H Wx Q hs ra rb q
  subst hr
  rcases hk a b with ⟨i, j, rfl, rfl, h | ⟨hc, h⟩⟩ | h
  · rw [h] at q; exact q.elim
  · cases ra; cases rb
    rw [h] at q
    exact ⟨i, j, rfl, rfl, hc, q.done hs (hg i j _ _)⟩
  · rw [h] at q; exact q.elim
theorem od_int0 {r : R2} {k : D → D → R D} {g : Int → Int → V} {gd : Int → Int → D} (hr : r = rI0 g) (hg : ∀ i j K G, Rp K G (g i j) (gd i j))
    (hk : ∀ a b, (∃ i j, a = .int i ∧ b = .int j ∧ k a b = .ok (gd i j)) ∨ k a b = .no) : OpD X r k := by
  intro a b x y G H Wx Q hs ra rb q
  subst hr
  rcases hk a b with ⟨i, j, rfl, rfl, h⟩ | h
  · cases ra; cases rb
    rw [h] at q
    exact ⟨i, j, rfl, rfl, q.done hs (hg i j _ _)⟩
  · rw [h] at q; exact q.elim
theorem od_sub : OpD X (rI0 fun i j => .int (i - j)) subD := od_int0 (gd := fun i j => .int (i - j)) rfl (fun i j _ _ => .int _) (by intro a b; cases a <;> first | exact .inr rfl | (cases b <;> first | exact .inr rfl | exact .inl ⟨_, _, rfl, rfl, rfl⟩))
theorem od_le : OpD X (rI0 fun i j => .bl (decide (i ≤ j))) leD := od_int0 (gd := fun i j => .bool (decide (i ≤ j))) rfl (fun i j _ _ => .bl _) (by intro a b; cases a <;> first | exact .inr rfl | (cases b <;> first | exact .inr rfl | exact .inl ⟨_, _, rfl, rfl, rfl⟩))
theorem od_gt : OpD X (rI0 fun i j => .bl (decide (j < i))) gtD := od_int0 (gd := fun i j => .bool (decide (j < i))) rfl (fun i j _ _ => .bl _) (by intro a b; cases a <;> first | exact .inr rfl | (cases b <;> first | exact .inr rfl | exact .inl ⟨_, _, rfl, rfl, rfl⟩))
theorem od_ge : OpD X (rI0 fun i j => .bl (decide (j ≤ i))) geD := od_int0 (gd := fun i j => .bool (decide (j ≤ i))) rfl (fun i j _ _ => .bl _) (by intro a b; cases a <;> first | exact .inr rfl | (cases b <;> first | exact .inr rfl | exact .inl ⟨_, _, rfl, rfl, rfl⟩))
theorem od_mul : OpD X (rI CMulW fun i j => .int (i * j)) mulD := od_int (gd := fun i j => .int (i * j)) rfl (fun i j _ _ => .int _) (by
  intro a b
  cases a <;> first | exact .inr rfl | (cases b <;> first | exact .inr rfl | (rename_i i j; by_cases h : mulOk i j = true; exact .inl ⟨_, _, rfl, rfl, .inr ⟨(by unfold mulOk at h; have h' := of_decide_eq_true h; exact h'), by simp only [mulD, h, if_true]⟩⟩; exact .inr (by simp only [mulD, h]; rfl))))
def CDivZ (_ j : Int) : Prop := j ≠ 0 ∧ j.natAbs.log2 < 9000
theorem op_fdivZ : OpR X (binaryOp .FloorDiv) (rI CDivZ fun i j => .int (i.fdiv j)) := opI fun i j _ _ _ _ _ hc q => floordiv_int hc.1 q (.inl (PyProof.noPylong_of_log2 hc.2))
theorem od_fdiv : OpD X (rI CDivZ fun i j => .int (i.fdiv j)) fdivD := od_int (gd := fun i j => .int (i.fdiv j)) rfl (fun i j _ _ => .int _) (by
  intro a b
  cases a <;> first | exact .inr rfl | (cases b <;> first | exact .inr rfl | (rename_i i j; by_cases h : divOk j = true; exact .inl ⟨_, _, rfl, rfl, .inr ⟨(by unfold divOk at h; rw [Bool.and_eq_true] at h; exact ⟨of_decide_eq_true h.1, of_decide_eq_true h.2⟩), by simp only [fdivD, h, if_true]⟩⟩; exact .inr (by simp only [fdivD, h]; rfl))))
theorem od_mod : OpD X (rI (fun _ j => j ≠ 0) fun i j => .int (i.fmod j)) modD := od_int (gd := fun i j => .int (i.fmod j)) rfl (fun i j _ _ => .int _) (by
  intro a b
  cases a <;> first | exact .inr rfl | (cases b <;> first | exact .inr rfl | (rename_i i j; by_cases h : decide (j ≠ 0) = true; exact .inl ⟨_, _, rfl, rfl, .inr ⟨of_decide_eq_true h, by simp only [modD, h, if_true]⟩⟩; exact .inr (by simp only [modD, h]; rfl))))
theorem od_pow : OpD X (rI CPow fun i j => .int (i ^ j.toNat)) powD := od_int (gd := fun i j => .int (i ^ j.toNat)) rfl (fun i j _ _ => .int _) (by
  intro a b
  cases a <;> first | exact .inr rfl | (cases b <;> first | exact .inr rfl | (rename_i i j; by_cases h : decide (0 ≤ j ∧ j ≤ 1000000 ∧ i.natAbs < 18446744073709551616) = true; exact .inl ⟨_, _, rfl, rfl, .inr ⟨(by have := of_decide_eq_true h; exact ⟨this.1, this.2.1, by have := this.2.2; omega⟩), by simp only [powD, h, if_true]⟩⟩; exact .inr (by simp only [powD, h]; rfl))))
theorem ud_neg : UnD X (rU fun i => .int (-i)) negD := by
  intro a x G H Wx Q hs ra q
  unfold negD at q
  split at q
  · cases ra; exact ⟨_, rfl, q.done hs (.int _)⟩
  · exact q.elim
theorem okD_can {d : D} (h : okD d = true) : d.canLay0 = true := by
  unfold okD SeqAt.shaped at h
  rw [Bool.and_eq_true] at h
  exact h.1
theorem od_eq : OpD X (rEqD X.K) eqD := by
  intro a b x y G H Wx Q hs ra rb q
  unfold eqD at q
  split at q
  · rename_i h
    rw [Bool.and_eq_true] at h
    exact ⟨a, b, Rp.dp _ _ (ra.up hs) (okD_can h.1), Rp.dp _ _ (rb.up hs) (okD_can h.2), h.1, h.2, q.done hs (.bl _)⟩
  · exact q.elim
theorem od_ne : OpD X (rNeD X.K) neD := by
  intro a b x y G H Wx Q hs ra rb q
  unfold neD at q
  split at q
  · rename_i h
    rw [Bool.and_eq_true] at h
    exact ⟨a, b, Rp.dp _ _ (ra.up hs) (okD_can h.1), Rp.dp _ _ (rb.up hs) (okD_can h.2), h.1, h.2, q.done hs (.bl _)⟩
  · exact q.elim
def rLtAll (K : PySem.W.Frag) : R2 := fun x y H Q => (rI0 fun i j => .bl (decide (i < j))) x y H Q ∨ ((fun x y H Q => ∃ i j, x = .str i ∧ y = .str j ∧ Q (.bl (decide (i.cps.toList < j.cps.toList))) H) x y H Q ∨ rLtT K x y H Q)
theorem or_lt (hu : X.A.units < cLine) : OpR X (compareOp .Lt) (rLtAll X.K) := op_lt.or (op_lt_str.or (op_ltT hu))
theorem od_lt : OpD X (rLtAll X.K) ltD := by
  intro a b x y G H Wx Q hs ra rb q
  unfold ltD at q
  split at q
  · cases ra; cases rb
    exact .inl ⟨_, _, rfl, rfl, q.done hs (.bl _)⟩
  · cases ra; cases rb
    exact .inr (.inl ⟨_, _, rfl, rfl, q.done hs (.bl _)⟩)
  · split at q
    · rename_i e1 e2
      obtain ⟨l, xs, rfl, h1, g1, p1⟩ := ra.seqT hs
      obtain ⟨l2, ys, rfl, h2, g2, p2⟩ := rb.seqT hs
      rw [intsOf_some e1] at p1
      rw [intsOf_some e2] at p2
      rw [p1.of_ints] at h1
      rw [p2.of_ints] at h2
      exact .inr (.inr ⟨_, _, _, _, rfl, rfl, h1, h2, q.done hs (.bl _)⟩)
    · exact q.elim
  · exact q.elim
theorem od_isN : OpD X (fun x y H Q => y = .non ∧ Q (.bl (decide (x = .non))) H) isND := by
  intro a b x y G H Wx Q hs ra rb q
  unfold isND at q
  split at q
  · cases ra; cases rb; exact ⟨rfl, q.done hs (.bl _)⟩
  · rename_i hn
    cases rb
    refine ⟨rfl, ?_⟩
    rw [decide_eq_false (fun e => by subst e; cases ra; exact hn rfl)]
    exact q.done hs (.bl _)
  · exact q.elim
theorem od_notN : OpD X (fun x y H Q => y = .non ∧ Q (.bl (!decide (x = .non))) H) notND := by
  intro a b x y G H Wx Q hs ra rb q
  unfold notND at q
  split at q
  · cases ra; cases rb; exact ⟨rfl, q.done hs (.bl _)⟩
  · rename_i hn
    cases rb
    refine ⟨rfl, ?_⟩
    rw [decide_eq_false (fun e => by subst e; cases ra; exact hn rfl)]
    exact q.done hs (.bl _)
  · exact q.elim
def rInAll (K : PySem.W.Frag) : R2 := fun x y H Q => rInD K x y H Q ∨ (fun x y H Q => ∃ i j, x = .str i ∧ y = .str j ∧ Q (.bl (!(Builtin.Str.occurrences j i 0 j.length 1).isEmpty)) H) x y H Q
def rNotInAll (K : PySem.W.Frag) : R2 := fun x y H Q => rNotInD K x y H Q ∨ (fun x y H Q => ∃ i j, x = .str i ∧ y = .str j ∧ Q (.bl (!(!(Builtin.Str.occurrences j i 0 j.length 1).isEmpty))) H) x y H Q
theorem or_in (hu : X.A.units + 65 < cLine) : OpR X (compareOp .In) (rInAll X.K) := (op_inD hu).or op_in_str
theorem or_notIn (hu : X.A.units + 65 < cLine) : OpR X (compareOp .NotIn) (rNotInAll X.K) := (op_notInD hu).or op_notin_str
theorem od_in : OpD X (rInAll X.K) inD := by
  intro a b x y G H Wx Q hs ra rb q
  unfold inD at q
  split at q
  · split at q
    · rename_i h
      rw [Bool.and_eq_true] at h
      exact .inl ⟨_, _, Rp.dp _ _ (ra.up hs) (okD_can h.1), Rp.dp _ _ (rb.up hs) (okD_can h.2), h.1, h.2, q.done hs (.bl _)⟩
    · exact q.elim
  · split at q
    · cases ra; cases rb
      exact .inr ⟨_, _, rfl, rfl, q.done hs (.bl _)⟩
    · exact q.elim
  · exact q.elim
theorem od_notIn : OpD X (rNotInAll X.K) notInD := by
  intro a b x y G H Wx Q hs ra rb q
  unfold notInD at q
  split at q
  · split at q
    · rename_i h
      rw [Bool.and_eq_true] at h
      exact .inl ⟨_, _, Rp.dp _ _ (ra.up hs) (okD_can h.1), Rp.dp _ _ (rb.up hs) (okD_can h.2), h.1, h.2, q.done hs (.bl _)⟩
    · exact q.elim
  · split at q
    · cases ra; cases rb
      exact .inr ⟨_, _, rfl, rfl, q.done hs (.bl _)⟩
    · exact q.elim
  · exact q.elim
/-! ### items -/
theorem od_ix : OpD X (rIx X.K) ixD := by
  intro a b x y G H Wx Q hs ra rb q
  unfold ixD at q
  split at q
  · rename_i ds i
    cases rb
    obtain ⟨l, xs, rfl, h1, g1, p1⟩ := ra.seqL hs
    cases e : atD ds i with
    | none => rw [e] at q; exact q.elim
    | some d =>
      rw [e] at q
      obtain ⟨j, hj, hd⟩ := atD_at e
      obtain ⟨v, hv, rv⟩ := p1.get hd
      refine .inl ⟨l, xs, i, v, rfl, rfl, SqL.of h1, ?_, q.done hs rv⟩
      unfold atI
      rw [p1.length, hj]
      exact hv
  · rename_i ds i
    cases rb
    obtain ⟨l, xs, rfl, h1, g1, p1⟩ := ra.seqT hs
    cases e : atD ds i with
    | none => rw [e] at q; exact q.elim
    | some d =>
      rw [e] at q
      obtain ⟨j, hj, hd⟩ := atD_at e
      obtain ⟨v, hv, rv⟩ := p1.get hd
      refine .inr (.inl ⟨l, xs, i, v, rfl, rfl, h1, ?_, q.done hs rv⟩)
      unfold atI
      rw [p1.length, hj]
      exact hv
  · rename_i z i
    split at q
    · rename_i hl
      cases ra; cases rb
      cases e : atD z.cps.toList i with
      | none => rw [e] at q; exact q.elim
      | some c =>
        rw [e] at q
        obtain ⟨j, hj, hd⟩ := atD_at e
        refine .inr (.inr ⟨z, i, c, rfl, rfl, lineOk_le hl, ?_, q.done hs (.str _)⟩)
        unfold atI
        rw [hj]
        exact hd
    · exact q.elim
  · exact q.elim
variable {W : WX}
theorem d_ix {a b : Expr} {pos : Pos} {f g : EnvS → R D} (ha : PD X W a f) (hb : PD X W b g) (hp : PlainIx b := by intro _ _; rfl) : PD X W (.Subscript a b pos) (bin2 ixD f g) := (pe_ix ix_seq ha hb hp).wk fun _ _ _ h => tOpD od_ix h
end
end TD

/-! TdSeq: argument lists, displays, lists that are new or one's own, slices, calls of built-ins and of defs. -/
namespace TD
open PySem PySem.Spec PyProof.Rows L2
/-- what a reading of a result must bear -/
structure Fin {β : Type} (Wx : Str → Hp → Prop) (P : R β → Hp → Hp → Prop) : Prop where
  later : ∀ r G H G1 H1, P r G H → Ext G H G1 H1 → P r G1 H1
  ex : ∀ x G H, P (.ex x) G H → ∀ G' H', Ext G H G' H' → Wx x H'
  no : ∀ G H, P .no G H → False
theorem Post.fin {α υ : Type} {rp : Hp → υ → α → Prop} {Wx : Str → Hp → Prop} {Q : υ → Hp → Prop} : Fin Wx (fun r G H => Post rp Wx G H r Q) := ⟨fun _ _ _ _ _ h e => Post.later h e, fun _ _ _ h => h, fun _ _ h => h⟩
/-- a new list, not yet settled -/
def PostN (K : PySem.W.Frag) (Wx : Str → Hp → Prop) (G H : Hp) (r : R (List D)) (Q : VK) : Prop :=
  match r with
  | .ok ds => ∀ q xs G' H', Ext G H G' H' → H q = none → G' q = none → H' q = some (.lst xs) → RpAll K G' xs ds → Q (.ref q) H'
  | .ex x => ∀ G' H', Ext G H G' H' → Wx x H'
  | .no => False
/-- a list that may be read -/
def PostL (K : PySem.W.Frag) (Wx : Str → Hp → Prop) (G H : Hp) (r : R (List D)) (Q : VK) : Prop :=
  match r with
  | .ok ds => ∀ q xs G' H', Ext G H G' H' → H' q = some (.lst xs) → RpAll K G' xs ds → Q (.ref q) H'
  | .ex x => ∀ G' H', Ext G H G' H' → Wx x H'
  | .no => False
theorem PostN.fin {K : PySem.W.Frag} {Wx : Str → Hp → Prop} {Q : VK} : Fin Wx (fun r G H => PostN K Wx G H r Q) := by
  refine ⟨fun r G H G1 H1 h e => ?_, fun _ _ _ h => h, fun _ _ h => h⟩
  cases r with
  | ok ds => exact fun q xs G' H' e' h1 => h q xs G' H' (e.trans e') (e.hh.free h1)
  | ex x => exact fun G' H' e' => h G' H' (e.trans e')
  | no => exact h
theorem PostL.fin {K : PySem.W.Frag} {Wx : Str → Hp → Prop} {Q : VK} : Fin Wx (fun r G H => PostL K Wx G H r Q) := by
  refine ⟨fun r G H G1 H1 h e => ?_, fun _ _ _ h => h, fun _ _ h => h⟩
  cases r with
  | ok ds => exact fun q xs G' H' e' => h q xs G' H' (e.trans e')
  | ex x => exact fun G' H' e' => h G' H' (e.trans e')
  | no => exact h
def tN (K : PySem.W.Frag) (mg : Str → Option Value) (W : WX) (f : EnvS → R (List D)) : TE := fun σ H Q => ∃ G ρ, Same G H ∧ EnvE K G H σ ρ ∧ PostN K (Wxo mg W σ) G H (f ρ) Q
def tL (K : PySem.W.Frag) (mg : Str → Option Value) (W : WX) (f : EnvS → R (List D)) : TE := fun σ H Q => ∃ G ρ, Same G H ∧ EnvE K G H σ ρ ∧ PostL K (Wxo mg W σ) G H (f ρ) Q
abbrev PDN (X : Cx) (W : WX) (e : Expr) (f : EnvS → R (List D)) : Prop := PE X e (tN X.K X.mg W f)
abbrev PDL (X : Cx) (W : WX) (e : Expr) (f : EnvS → R (List D)) : Prop := PE X e (tL X.K X.mg W f)
section
variable {K : PySem.W.Frag} {mg : Str → Option Value} {W : WX} {σ : L2.St} {ρ : EnvS} {G H : Hp}
theorem seqP {α β υ : Type} {rp : Hp → υ → α → Prop} {P : R β → Hp → Hp → Prop} {f : EnvS → R α} {k : α → R β} {Q1 : υ → Hp → Prop} (F : Fin (Wxo mg W σ) P)
    (h : P ((f ρ).bind k) G H) (hs : Same G H) (he : EnvE K G H σ ρ)
    (q : ∀ a v G1 H1, f ρ = .ok a → Ext G H G1 H1 → rp G1 v a → EnvE K G1 H1 σ ρ → P (k a) G1 H1 → Q1 v H1) : tD K mg W rp f σ H Q1 := by
  refine ⟨G, ρ, hs, he, ?_⟩
  cases e : f ρ with
  | ok a =>
    rw [e] at h
    intro v G1 H1 e1 r1
    exact q a v G1 H1 e e1 r1 (he.up e1) (F.later _ _ _ _ _ h e1)
  | ex x =>
    rw [e] at h
    exact F.ex x G H h
  | no =>
    rw [e] at h
    exact (F.no G H h).elim
theorem seqL {β : Type} {P : R β → Hp → Hp → Prop} {f : EnvS → R (List D)} {k : List D → R β} {Q1 : VK} (F : Fin (Wxo mg W σ) P)
    (h : P ((f ρ).bind k) G H) (hs : Same G H) (he : EnvE K G H σ ρ)
    (q : ∀ ds a xs G1 H1, f ρ = .ok ds → Ext G H G1 H1 → H1 a = some (.lst xs) → RpAll K G1 xs ds → EnvE K G1 H1 σ ρ → P (k ds) G1 H1 → Q1 (.ref a) H1) : tL K mg W f σ H Q1 := by
  refine ⟨G, ρ, hs, he, ?_⟩
  cases e : f ρ with
  | ok a =>
    rw [e] at h
    intro v xs G1 H1 e1 r1 r2
    exact q a v xs G1 H1 e e1 r1 r2 (he.up e1) (F.later _ _ _ _ _ h e1)
  | ex x =>
    rw [e] at h
    exact F.ex x G H h
  | no =>
    rw [e] at h
    exact (F.no G H h).elim
end
theorem R.bind_assoc {α β γ : Type} (r : R α) (f : α → R β) (g : β → R γ) : (r.bind f).bind g = r.bind fun a => (f a).bind g := by cases r <;> rfl
def lstF (f : EnvS → R (List D)) : EnvS → R D := fun ρ => (f ρ).bind fun ds => .ok (.list ds)
def asLF (f : EnvS → R D) : EnvS → R (List D) := fun ρ => (f ρ).bind fun d => match d with
  | .list ds => .ok ds
  | _ => .no
section
variable {X : Cx} {W : WX}
/-- a new list is settled -/
theorem tN_of {f : EnvS → R (List D)} {σ : L2.St} {H : Hp} {Q : VK} (h : tD X.K X.mg W (rpE X.K) (lstF f) σ H Q) : tN X.K X.mg W f σ H Q := by
  obtain ⟨G, ρ, hs, he, q⟩ := h
  unfold lstF at q
  refine ⟨G, ρ, hs, he, ?_⟩
  cases e : f ρ with
  | ok ds =>
    rw [e] at q
    intro a xs G1 H1 e1 n1 n2 h1 r1
    refine q (.ref a) (upd G1 a (.lst xs)) H1 ⟨fun b o hb => ?_, e1.hh, e1.gg.trans (same_upd n2), fun p h1 h2 => ?_⟩ (.lst upd_same (r1.up (same_upd n2)))
    · by_cases hab : b = a
      · subst hab; rw [upd_same] at hb; cases hb; exact h1
      · rw [upd_ne hab] at hb; exact e1.sub _ _ hb
    · by_cases hpa : p = a
      · subst hpa; exact n1
      · rw [upd_ne hpa] at h2; exact e1.fr p h1 h2
  | ex x => rw [e] at q; exact q
  | no => rw [e] at q; exact q
theorem d_new {e : Expr} {f : EnvS → R (List D)} (h : PDN X W e f) : PD X W e (lstF f) := L2.PE.wk h fun σ H Q q => tN_of q
theorem l_new {e : Expr} {f : EnvS → R (List D)} (h : PDN X W e f) : PDL X W e f := L2.PE.wk h fun σ H Q ⟨G, ρ, hs, he, q⟩ => by
  refine ⟨G, ρ, hs, he, ?_⟩
  cases e : f ρ with
  | ok ds => rw [e] at q; exact fun a xs G1 H1 e1 _ _ h1 r1 => q a xs G1 H1 e1 h1 r1
  | ex x => rw [e] at q; exact q
  | no => rw [e] at q; exact q
theorem l_of {e : Expr} {f : EnvS → R D} (h : PD X W e f) : PDL X W e (asLF f) := L2.PE.wk h fun σ H Q ⟨G, ρ, hs, he, q⟩ => by
  unfold asLF at q
  refine seqP PostL.fin q hs he fun a v G1 H1 _ e1 r1 he1 q1 => ?_
  cases a with
  | list ds =>
    obtain ⟨a, xs, rfl, h1, g1, p1⟩ := r1.seqL e1.sub
    exact q1 a xs G1 H1 (.refl e1.sub) h1 p1
  | _ => exact q1.elim
def ownD (i : Nat) : EnvS → R (List D) := fun ρ => match ρ[i]? with
  | some (some (.ow ds)) => .ok ds
  | _ => .no
theorem l_own (i : Nat) {x : Str} {pos : Pos} (hN : X.N[i]? = some x := by rfl) (hv : Vis X.env.scope x := by first | exact Or.inl rfl | exact Or.inr (Or.inl rfl) | exact Or.inr (Or.inr rfl)) (hd : (x == ("__debug__" : Str)) = false := by decide)
    (hcd : (x == ("__classdict__" : Str)) = false := by decide) : PDL X W (.Name x pos) (ownD i) := (pe_var hN hv hd hcd).wk fun σ H Q ⟨G, ρ, hs, he, q⟩ => by
  unfold ownD at q
  cases e : ρ[i]? with
  | none => rw [e] at q; exact q.elim
  | some o =>
    cases o with
    | none => rw [e] at q; exact q.elim
    | some d =>
      cases d with
      | pu ds => rw [e] at q; exact q.elim
      | ow d =>
        rw [e] at q
        obtain ⟨p, vs, h1, h2, h3, h4⟩ := he.ow i d e
        exact ⟨_, h1, q p vs G H (.refl hs) h2 h4⟩

/-! ### argument lists, displays -/
def nilA : EnvS → R (List D) := fun _ => .ok []
def consA (f : EnvS → R D) (g : EnvS → R (List D)) : EnvS → R (List D) := fun ρ => (f ρ).bind fun a => (g ρ).bind fun as => .ok (a :: as)
theorem a_nil : PAD X W [] nilA := pa_nil.wk fun σ H Q ⟨G, ρ, hs, he, q⟩ => Post.done (rp := rpL X.K) q hs .nil
theorem a_cons {e : Expr} {es : List Expr} {f : EnvS → R D} {g : EnvS → R (List D)} (ha : PD X W e f) (hr : PAD X W es g) (hs : starEach (e :: es) X.env = (false, eval e X.env) :: starEach es X.env := by rfl) : PAD X W (e :: es) (consA f g) :=
  (pa_cons ha hr hs).wk fun σ H Q ⟨G, ρ, hs, he, q⟩ => Post.seq q hs he fun a v G1 H1 _ e1 r1 he1 q1 => Post.seq q1 e1.sub he1 fun as vs G2 H2 _ e2 r2 he2 q2 => Post.done (rp := rpL X.K) q2 e2.sub (.cons (Rp.up r1 e2.gg) r2)
def tupD (g : EnvS → R (List D)) : EnvS → R D := fun ρ => (g ρ).bind fun as => if lineOk as.length then .ok (.tuple as) else .no
def newD (g : EnvS → R (List D)) : EnvS → R (List D) := fun ρ => (g ρ).bind fun as => if lineOk as.length then .ok as else .no
theorem d_tup {es : List Expr} {k : Nat} {pos : Pos} {g : EnvS → R (List D)} (h : PAD X W es g) : PD X W (.Tuple es k pos) (tupD g) := (pe_tup h).wk fun σ H Q ⟨G, ρ, hs, he, q⟩ =>
  Post.seq q hs he fun as vs G1 H1 _ e1 r1 he1 q1 => by
    split at q1
    · rename_i hl
      refine ⟨by rw [RpAll.length r1]; exact lineOk_le hl, fun p hp => ?_⟩
      have e := Ext.new (o := .tup vs) e1.sub hp
      exact q1 _ _ _ e (.tup (SqT.of upd_same) (RpAll.up r1 e.gg))
    · exact q1.elim
theorem n_lst {es : List Expr} {pos : Pos} {g : EnvS → R (List D)} (h : PAD X W es g) : PDN X W (.List es pos) (newD g) := (pe_lst h).wk fun σ H Q ⟨G, ρ, hs, he, q⟩ =>
  seqP PostN.fin q hs he fun as vs G1 H1 _ e1 r1 he1 q1 => by
    split at q1
    · rename_i hl
      refine ⟨by rw [RpAll.length r1]; exact lineOk_le hl, fun p hp => ?_⟩
      exact q1 p vs G1 _ ⟨e1.sub.trans (same_upd hp), same_upd hp, .refl _, fun p h1 h2 => absurd h1 h2⟩ hp (e1.sub.free hp) upd_same r1
    · exact q1.elim

/-! ### slices -/
abbrev POD (X : Cx) (W : WX) (e : Option Expr) (f : EnvS → R (Option Int)) : Prop := PO X e (tD X.K X.mg W (fun _ a b => a = b) f)
theorem _root_.L2.PO.wk {X : Cx} {e : Option Expr} {t t' : TO} (h : PO X e t) (w : ∀ σ H Q, t' σ H Q → t σ H Q) : PO X e t' := ⟨fun pins s σ H Q I q => h.run pins s σ H Q I (w σ H Q q)⟩
def noP : EnvS → R (Option Int) := fun _ => .ok none
def someP (f : EnvS → R D) : EnvS → R (Option Int) := fun ρ => (f ρ).bind fun d => match d with
  | .int i => .ok (some i)
  | _ => .no
theorem o_none : POD X W none noP := po_none.wk fun σ H Q ⟨G, ρ, hs, he, q⟩ => Post.done (v := none) q hs rfl
theorem o_some {e : Expr} {f : EnvS → R D} (h : PD X W e f) : POD X W (some e) (someP f) := (po_some h).wk fun σ H Q ⟨G, ρ, hs, he, q⟩ =>
  Post.seq q hs he fun a v G1 H1 _ e1 r1 he1 q1 => by
    cases a with
    | int i => cases r1; exact ⟨i, rfl, Post.done (v := some i) q1 e1.sub rfl⟩
    | _ => exact q1.elim
def slcD (f : EnvS → R D) (g h : EnvS → R (Option Int)) : EnvS → R D := fun ρ => (f ρ).bind fun d => (g ρ).bind fun lo => (h ρ).bind fun hi => match d with
  | .tuple ds => .ok (.tuple (cutD ds lo hi))
  | _ => .no
def slcL (f : EnvS → R (List D)) (g h : EnvS → R (Option Int)) : EnvS → R (List D) := fun ρ => (f ρ).bind fun ds => (g ρ).bind fun lo => (h ρ).bind fun hi => .ok (cutD ds lo hi)
theorem RpAll.cut {K : PySem.W.Frag} {H : Hp} {xs : List V} {ds : List D} (r : RpAll K H xs ds) (lo hi : Option Int) : RpAll K H (cutV xs lo hi) (cutD ds lo hi) := by
  unfold cutV cutD
  rw [r.length]
  exact (r.drop _).take _
theorem cut_all {α : Type} {xs : List α} {lo hi : Option Int} (h : HT.sIx xs.length 0 lo = 0 ∧ HT.sIx xs.length xs.length hi = xs.length) : cutD xs lo hi = xs := by
  unfold cutD
  rw [h.1, h.2, List.drop_zero, Nat.sub_zero, List.take_length]
/-- t[lo:hi] of a tuple -/
theorem d_slcT {e : Expr} {lo hi : Option Expr} {p2 pos : Pos} {f : EnvS → R D} {g h : EnvS → R (Option Int)} (he : PD X W e f) (hl : POD X W lo g) (hu : POD X W hi h) : PD X W (.Subscript e (.Slice lo hi none p2) pos) (slcD f g h) :=
  (pe_slice sl_tupA he hl hu).wk fun σ H Q ⟨G, ρ, hs, he, q⟩ => by
    unfold slcD at q
    refine Post.seq q hs he fun a v G1 H1 _ e1 r1 he1 q1 => ?_
    refine Post.seq q1 e1.sub he1 fun lo lo' G2 H2 _ e2 r2 he2 q2 => ?_
    refine Post.seq q2 e2.sub he2 fun hi hi' G3 H3 _ e3 r3 he3 q3 => ?_
    subst r2 r3
    cases a with
    | tuple ds =>
      obtain ⟨l, xs, rfl, h1, g1, p1⟩ := Rp.seqT (Rp.up r1 (e2.gg.trans e3.gg)) e3.sub
      refine ⟨l, xs, rfl, h1, fun hw => ?_, fun _ p hp => ?_⟩
      · rw [p1.length] at hw
        have q3 : Post (rpE X.K) (Wxo X.mg W σ) G3 H3 (.ok (.tuple (cutD ds lo' hi'))) Q := q3
        rw [cut_all hw] at q3
        exact q3.done e3.sub (.tup g1 p1)
      · have e := Ext.new (o := .tup (cutV xs lo' hi')) e3.sub hp
        exact q3 _ _ _ e (.tup (SqT.of upd_same) ((p1.cut lo' hi').up e.gg))
    | _ => exact q3.elim
theorem Ext.newH {G H : Hp} {p : Addr} {o : HO} (h : Same G H) (hp : H p = none) : Ext G H G (upd H p o) := ⟨h.trans (same_upd hp), same_upd hp, .refl _, fun _ h1 h2 => absurd h1 h2⟩
theorem n_slc {e : Expr} {lo hi : Option Expr} {p2 pos : Pos} {f : EnvS → R (List D)} {g h : EnvS → R (Option Int)} (he : PDL X W e f) (hl : POD X W lo g) (hu : POD X W hi h) : PDN X W (.Subscript e (.Slice lo hi none p2) pos) (slcL f g h) :=
  (pe_slice sl_list he hl hu).wk fun σ H Q ⟨G, ρ, hs, he, q⟩ => by
    unfold slcL at q
    refine seqL PostN.fin q hs he fun ds a xs G1 H1 _ e1 h1 r1 he1 q1 => ?_
    refine seqP PostN.fin q1 e1.sub he1 fun lo lo' G2 H2 _ e2 r2 he2 q2 => ?_
    refine seqP PostN.fin q2 e2.sub he2 fun hi hi' G3 H3 _ e3 r3 he3 q3 => ?_
    subst r2 r3
    refine ⟨a, xs, rfl, SqL.of ((e2.hh.trans e3.hh) _ _ h1), fun p hp => ?_⟩
    exact q3 p _ G3 _ (Ext.newH e3.sub hp) hp (e3.sub.free hp) upd_same ((r1.up (e2.gg.trans e3.gg)).cut _ _)
/-- script[:63] and its like -/
def asSF (f : EnvS → R D) : EnvS → R (List D) := fun ρ => (f ρ).bind fun d => match d with
  | PyData.dict [(PyData.none, PyData.list ds)] => .ok ds
  | _ => .no
theorem scr_inv {K : PySem.W.Frag} {G : Hp} {v : V} {ds : List D} (h : Rp K G v (.dict [(.none, .list ds)])) : ∃ (a : Addr) (ns : List Int), v = .ref a ∧ ds = ns.map PyData.int ∧ SqL K G a (ns.map V.int) := by
  generalize hd : (PyData.dict [(.none, .list ds)] : D) = d at h
  cases h with
  | scr h1 =>
    unfold scrD at hd
    injection hd with e1
    injection e1 with e2
    injection e2 with e3 e4
    injection e4 with e5
    exact ⟨_, _, rfl, e5, h1⟩
  | _ => cases hd
theorem n_slcS {e : Expr} {lo hi : Option Expr} {p2 pos : Pos} {f : EnvS → R D} {g h : EnvS → R (Option Int)} (he : PD X W e f) (hl : POD X W lo g) (hu : POD X W hi h) : PDN X W (.Subscript e (.Slice lo hi none p2) pos) (slcL (asSF f) g h) :=
  (pe_slice sl_list he hl hu).wk fun σ H Q ⟨G, ρ, hs, he, q⟩ => by
    unfold slcL asSF at q
    rw [R.bind_assoc] at q
    refine seqP PostN.fin q hs he fun a v G1 H1 _ e1 r1 he1 q1 => ?_
    split at q1
    · rename_i ds
      refine seqP PostN.fin q1 e1.sub he1 fun lo lo' G2 H2 _ e2 r2 he2 q2 => ?_
      refine seqP PostN.fin q2 e2.sub he2 fun hi hi' G3 H3 _ e3 r3 he3 q3 => ?_
      subst r2 r3
      obtain ⟨a, ns, rfl, rfl, h1⟩ := scr_inv r1
      refine ⟨a, _, rfl, ((e2.gg.trans e3.gg).trans e3.sub).seq h1, fun p hp => ?_⟩
      exact q3 p _ G3 _ (Ext.newH e3.sub hp) hp (e3.sub.free hp) upd_same ((RpAll.ints ns).cut _ _)
    · exact q1.elim

/-! ### list + list of lists that may be read; items -/
def catL (f g : EnvS → R (List D)) : EnvS → R (List D) := fun ρ => (f ρ).bind fun a => (g ρ).bind fun b => if lineOk (a.length + b.length) then .ok (a ++ b) else .no
theorem n_cat {a b : Expr} {pos : Pos} {f g : EnvS → R (List D)} (ha : PDL X W a f) (hb : PDL X W b g) : PDN X W (.BinOp a .Add b pos) (catL f g) := (pe_op op_cat ha hb).wk fun σ H Q ⟨G, ρ, hs, he, q⟩ => by
  unfold catL at q
  refine seqL PostN.fin q hs he fun ds a xs G1 H1 _ e1 h1 r1 he1 q1 => ?_
  refine seqL PostN.fin q1 e1.sub he1 fun es b ys G2 H2 _ e2 h2 r2 he2 q2 => ?_
  split at q2
  · rename_i hl
    refine ⟨a, b, xs, ys, rfl, rfl, e2.hh _ _ h1, h2, by rw [r1.length, r2.length]; exact lineOk_le hl, fun p hp => ?_⟩
    exact q2 p _ G2 _ (Ext.newH e2.sub hp) hp (e2.sub.free hp) upd_same ((r1.up e2.gg).append r2)
  · exact q2.elim
def ixL (f : EnvS → R (List D)) (g : EnvS → R D) : EnvS → R D := fun ρ => (f ρ).bind fun ds => (g ρ).bind fun i => ixD (.list ds) i
theorem d_ixL {a b : Expr} {pos : Pos} {f : EnvS → R (List D)} {g : EnvS → R D} (ha : PDL X W a f) (hb : PD X W b g) (hp : PlainIx b := by intro _ _; rfl) : PD X W (.Subscript a b pos) (ixL f g) := (pe_ix ix_list ha hb hp).wk fun σ H Q ⟨G, ρ, hs, he, q⟩ => by
  unfold ixL at q
  refine seqL Post.fin q hs he fun ds l xs G1 H1 _ e1 h1 r1 he1 q1 => ?_
  refine Post.seq q1 e1.sub he1 fun i v G2 H2 _ e2 r2 he2 q2 => ?_
  cases i with
  | int i =>
    cases r2
    unfold ixD at q2
    cases e : atD ds i with
    | none => simp only [e] at q2; exact q2.elim
    | some d =>
      simp only [e] at q2
      obtain ⟨j, hj, hd⟩ := atD_at e
      obtain ⟨v, hv, rv⟩ := r1.get hd
      refine ⟨l, xs, i, v, rfl, rfl, SqL.of (e2.hh _ _ h1), ?_, q2.done e2.sub (rv.up e2.gg)⟩
      unfold atI
      rw [r1.length, hj]
      exact hv
  | _ => exact q2.elim
/-! ### calls of built-ins -/
/-- a call's reading serves a function of data -/
def CallD (X : Cx) (r : List V → Hp → VK → Prop) (k : List D → R D) : Prop := ∀ (ds : List D) (xs : List V) (G H : Hp) (Wx : Str → Hp → Prop) (Q : VK), Same G H → RpAll X.K G xs ds → Post (rpE X.K) Wx G H (k ds) Q → r xs H Q
/-- of one list that may be read -/
def LstD (X : Cx) (r : List V → Hp → VK → Prop) (k : List D → R D) : Prop := ∀ (ds : List D) (a : Addr) (xs : List V) (G H : Hp) (Wx : Str → Hp → Prop) (Q : VK), Same G H → H a = some (.lst xs) → RpAll X.K G xs ds → Post (rpE X.K) Wx G H (k ds) Q → r [.ref a] H Q
def LstN (X : Cx) (r : List V → Hp → VK → Prop) (k : List D → R (List D)) : Prop := ∀ (ds : List D) (a : Addr) (xs : List V) (G H : Hp) (Wx : Str → Hp → Prop) (Q : VK), Same G H → H a = some (.lst xs) → RpAll X.K G xs ds → PostN X.K Wx G H (k ds) Q → r [.ref a] H Q
def callF (k : List D → R D) (g : EnvS → R (List D)) : EnvS → R D := fun ρ => (g ρ).bind k
variable {x : Str} {p pos : Pos} {e : Expr} {es : List Expr} {id T : String} {r : List V → Hp → VK → Prop}
theorem d_blt {k : List D → R D} {g : EnvS → R (List D)} (hc : CallR X (.builtin id) r) (hr : CallD X r k) (hm : X.mg x = none) (hv : bootBuiltins x = some (.builtin id)) (ha : PAD X W (e :: es) g) (hg : Gl X x := by rfl) (hn : x ≠ "__name__" := by decide) (hdb : (x == ("__debug__" : Str)) = false := by decide)
    (he : starEach (e :: es) X.env = (false, eval e X.env) :: starEach es X.env := by rfl) (hpl : (backTo pos (starEach es X.env)).any (·.1) = false := by rfl) : PD X W (.Call (.Name x p) (e :: es) [] pos) (callF k g) :=
  (pe_callB hc hg hm hv ha hn hdb he hpl).wk fun σ H Q ⟨G, ρ, hs, he, q⟩ => Post.seq q hs he fun as vs G1 H1 _ e1 r1 he1 q1 => hr as vs G1 H1 _ Q e1.sub r1 q1
theorem d_ty {k : List D → R D} {g : EnvS → R (List D)} (hc : CallR X (.type T) r) (hr : CallD X r k) (hm : X.mg x = none) (hv : bootBuiltins x = some (.type T)) (ha : PAD X W (e :: es) g) (hg : Gl X x := by rfl) (hn : x ≠ "__name__" := by decide) (hdb : (x == ("__debug__" : Str)) = false := by decide)
    (he : starEach (e :: es) X.env = (false, eval e X.env) :: starEach es X.env := by rfl) (hpl : (backTo pos (starEach es X.env)).any (·.1) = false := by rfl) : PD X W (.Call (.Name x p) (e :: es) [] pos) (callF k g) :=
  (pe_callTy hc hg hm hv ha hn hdb he hpl).wk fun σ H Q ⟨G, ρ, hs, he, q⟩ => Post.seq q hs he fun as vs G1 H1 _ e1 r1 he1 q1 => hr as vs G1 H1 _ Q e1.sub r1 q1
theorem d_bltL {k : List D → R D} {g : EnvS → R (List D)} (hc : CallR X (.builtin id) r) (hr : LstD X r k) (hm : X.mg x = none) (hv : bootBuiltins x = some (.builtin id)) (ha : PDL X W e g) (hg : Gl X x := by rfl) (hn : x ≠ "__name__" := by decide) (hdb : (x == ("__debug__" : Str)) = false := by decide)
    (he : starEach [e] X.env = (false, eval e X.env) :: starEach [] X.env := by rfl) : PD X W (.Call (.Name x p) [e] [] pos) (callF k g) :=
  (pe_callB hc hg hm hv (pa_cons ha pa_nil he) hn hdb he rfl).wk fun σ H Q ⟨G, ρ, hs, he, q⟩ => seqL Post.fin q hs he fun ds a xs G1 H1 _ e1 h1 r1 he1 q1 => hr ds a xs G1 H1 _ Q e1.sub h1 r1 q1
theorem d_tyL {k : List D → R D} {g : EnvS → R (List D)} (hc : CallR X (.type T) r) (hr : LstD X r k) (hm : X.mg x = none) (hv : bootBuiltins x = some (.type T)) (ha : PDL X W e g) (hg : Gl X x := by rfl) (hn : x ≠ "__name__" := by decide) (hdb : (x == ("__debug__" : Str)) = false := by decide)
    (he : starEach [e] X.env = (false, eval e X.env) :: starEach [] X.env := by rfl) : PD X W (.Call (.Name x p) [e] [] pos) (callF k g) :=
  (pe_callTy hc hg hm hv (pa_cons ha pa_nil he) hn hdb he rfl).wk fun σ H Q ⟨G, ρ, hs, he, q⟩ => seqL Post.fin q hs he fun ds a xs G1 H1 _ e1 h1 r1 he1 q1 => hr ds a xs G1 H1 _ Q e1.sub h1 r1 q1
def callN (k : List D → R (List D)) (g : EnvS → R (List D)) : EnvS → R (List D) := fun ρ => (g ρ).bind k
theorem n_bltL {k : List D → R (List D)} {g : EnvS → R (List D)} (hc : CallR X (.builtin id) r) (hr : LstN X r k) (hm : X.mg x = none) (hv : bootBuiltins x = some (.builtin id)) (ha : PDL X W e g) (hg : Gl X x := by rfl) (hn : x ≠ "__name__" := by decide) (hdb : (x == ("__debug__" : Str)) = false := by decide)
    (he : starEach [e] X.env = (false, eval e X.env) :: starEach [] X.env := by rfl) : PDN X W (.Call (.Name x p) [e] [] pos) (callN k g) :=
  (pe_callB hc hg hm hv (pa_cons ha pa_nil he) hn hdb he rfl).wk fun σ H Q ⟨G, ρ, hs, he, q⟩ => seqL PostN.fin q hs he fun ds a xs G1 H1 _ e1 h1 r1 he1 q1 => hr ds a xs G1 H1 _ Q e1.sub h1 r1 q1
theorem n_tyL {k : List D → R (List D)} {g : EnvS → R (List D)} (hc : CallR X (.type T) r) (hr : LstN X r k) (hm : X.mg x = none) (hv : bootBuiltins x = some (.type T)) (ha : PDL X W e g) (hg : Gl X x := by rfl) (hn : x ≠ "__name__" := by decide) (hdb : (x == ("__debug__" : Str)) = false := by decide)
    (he : starEach [e] X.env = (false, eval e X.env) :: starEach [] X.env := by rfl) : PDN X W (.Call (.Name x p) [e] [] pos) (callN k g) :=
  (pe_callTy hc hg hm hv (pa_cons ha pa_nil he) hn hdb he rfl).wk fun σ H Q ⟨G, ρ, hs, he, q⟩ => seqL PostN.fin q hs he fun ds a xs G1 H1 _ e1 h1 r1 he1 q1 => hr ds a xs G1 H1 _ Q e1.sub h1 r1 q1
end
end TD

/-! TdStm: statements, loops, comprehensions, defs, over data. -/
namespace TD
open PySem PySem.Spec PyProof.Rows L2
/-! ### what a statement comes to -/
inductive Out where
  | nx (ρ : EnvS) | rt (d : D) | bk (ρ : EnvS) | ct (ρ : EnvS) | ex (x : Str) (ρ : EnvS) | no
def Out.seq : Out → (EnvS → Out) → Out
  | .nx ρ, k => k ρ
  | .rt d, _ => .rt d
  | .bk ρ, _ => .bk ρ
  | .ct ρ, _ => .ct ρ
  | .ex x ρ, _ => .ex x ρ
  | .no, _ => .no
def R.out {α : Type} : R α → EnvS → (α → Out) → Out
  | .ok a, _, k => k a
  | .ex x, ρ, _ => .ex x ρ
  | .no, _, _ => .no
section
variable {α : Type} {ρ : EnvS} {k : EnvS → Out} {j : α → Out}
@[simp] theorem Out.nx_seq : (Out.nx ρ).seq k = k ρ := rfl
@[simp] theorem Out.rt_seq {d : D} : (Out.rt d).seq k = .rt d := rfl
@[simp] theorem Out.bk_seq : (Out.bk ρ).seq k = .bk ρ := rfl
@[simp] theorem Out.ct_seq : (Out.ct ρ).seq k = .ct ρ := rfl
@[simp] theorem Out.ex_seq {x : Str} : (Out.ex x ρ).seq k = .ex x ρ := rfl
@[simp] theorem Out.no_seq : Out.no.seq k = .no := rfl
@[simp] theorem R.ok_out {a : α} : (R.ok a).out ρ j = j a := rfl
@[simp] theorem R.ex_out {x : Str} : (R.ex x : R α).out ρ j = .ex x ρ := rfl
@[simp] theorem R.no_out : (R.no : R α).out ρ j = .no := rfl
end
structure StOk (K : PySem.W.Frag) (G0 H0 G H : Hp) (σ : L2.St) (ρ : EnvS) : Prop where
  ext : Ext G0 H0 G H
  len : σ.length = ρ.length
  env : EnvE K G H σ ρ
  own : ∀ (i : Nat) (ds : List D) (p : Addr), ρ[i]? = some (some (.ow ds)) → σ[i]? = some (some (.ref p)) → H0 p = none
  inj : ∀ (i j : Nat) (ds es : List D) (p : Addr), i ≠ j → ρ[i]? = some (some (.ow ds)) → ρ[j]? = some (some (.ow es)) → σ[i]? = some (some (.ref p)) → σ[j]? ≠ some (some (.ref p))
theorem StOk.step {K : PySem.W.Frag} {G0 H0 G H G' H' : Hp} {σ : L2.St} {ρ : EnvS} (h : StOk K G0 H0 G H σ ρ) (e : Ext G H G' H') : StOk K G0 H0 G' H' σ ρ := ⟨h.ext.trans e, h.len, h.env.up e, h.own, h.inj⟩
/-- the places not in wr are as they were -/
def Fr (wr : List Nat) (σ : L2.St) (ρ : EnvS) (σ' : L2.St) (ρ' : EnvS) : Prop := ∀ i : Nat, i ∉ wr → σ'[i]? = σ[i]? ∧ ρ'[i]? = ρ[i]?
theorem Fr.refl {wr : List Nat} {σ : L2.St} {ρ : EnvS} : Fr wr σ ρ σ ρ := fun _ _ => ⟨rfl, rfl⟩
theorem Fr.mono {wr wr' : List Nat} {σ σ' : L2.St} {ρ ρ' : EnvS} (h : Fr wr σ ρ σ' ρ') (s : ∀ i, i ∈ wr → i ∈ wr') : Fr wr' σ ρ σ' ρ' := fun i hi => h i fun z => hi (s i z)
theorem Fr.trans {wr : List Nat} {σ σ1 σ' : L2.St} {ρ ρ1 ρ' : EnvS} (h : Fr wr σ ρ σ1 ρ1) (h' : Fr wr σ1 ρ1 σ' ρ') : Fr wr σ ρ σ' ρ' := fun i hi => ⟨(h' i hi).1.trans (h i hi).1, (h' i hi).2.trans (h i hi).2⟩

def PostS (K : PySem.W.Frag) (mg : Str → Option Value) (W : WX) (G0 H0 : Hp) (wr : List Nat) (σ : L2.St) (ρ : EnvS) (G : Hp) (o : Out) (Dd : Ends) : Prop :=
  match o with
  | .nx ρ' => ∀ σ' G' H', StOk K G0 H0 G' H' σ' ρ' → Same G G' → Fr wr σ ρ σ' ρ' → Dd.nx σ' H'
  | .rt d => ∀ v G' H', Ext G0 H0 G' H' → Rp K G' v d → Dd.rt v H'
  | .bk ρ' => ∀ σ' G' H', StOk K G0 H0 G' H' σ' ρ' → Same G G' → Fr wr σ ρ σ' ρ' → Dd.bk σ' H'
  | .ct ρ' => ∀ σ' G' H', StOk K G0 H0 G' H' σ' ρ' → Same G G' → Fr wr σ ρ σ' ρ' → Dd.ct σ' H'
  | .ex x ρ' => ∀ c σ' G' H', mg x = some c → StOk K G0 H0 G' H' σ' ρ' → Same G G' → Fr wr σ ρ σ' ρ' → W c none σ' H'
  | .no => False
theorem PostS.later {K : PySem.W.Frag} {mg : Str → Option Value} {W : WX} {G0 H0 : Hp} {wr wr' : List Nat} {σ σ1 : L2.St} {ρ ρ1 : EnvS} {G G1 : Hp} {o : Out} {Dd : Ends} (h : PostS K mg W G0 H0 wr' σ ρ G o Dd) (s : ∀ i, i ∈ wr → i ∈ wr')
    (hg : Same G G1) (f : Fr wr' σ ρ σ1 ρ1) : PostS K mg W G0 H0 wr σ1 ρ1 G1 o Dd := by
  cases o with
  | nx ρ' => exact fun σ' G' H' a b c => h σ' G' H' a (hg.trans b) (f.trans (c.mono s))
  | rt d => exact h
  | bk ρ' => exact fun σ' G' H' a b c => h σ' G' H' a (hg.trans b) (f.trans (c.mono s))
  | ct ρ' => exact fun σ' G' H' a b c => h σ' G' H' a (hg.trans b) (f.trans (c.mono s))
  | ex x ρ' => exact fun cc σ' G' H' m a b c => h cc σ' G' H' m a (hg.trans b) (f.trans (c.mono s))
  | no => exact h
def tS (K : PySem.W.Frag) (mg : Str → Option Value) (W : WX) (wr : List Nat) (g : EnvS → Out) : TS := fun Dd σ H =>
  ∃ G0 H0 G ρ, StOk K G0 H0 G H σ ρ ∧ PostS K mg W G0 H0 wr σ ρ G (g ρ) Dd
abbrev PSD (X : Cx) (W : WX) (wr : List Nat) (st : Stmt) (g : EnvS → Out) : Prop := PS X st (tS X.K X.mg W wr g)
abbrev PSsD (X : Cx) (W : WX) (wr : List Nat) (st : List Stmt) (g : EnvS → Out) : Prop := PSs X st (tS X.K X.mg W wr g)
section
variable {K : PySem.W.Frag} {mg : Str → Option Value} {W : WX} {σ : L2.St} {ρ : EnvS} {G0 H0 G H : Hp} {wr : List Nat} {Dd : Ends}
/-- an expression within a statement -/
theorem outE {α υ : Type} {rp : Hp → υ → α → Prop} {f : EnvS → R α} {k : α → Out} {Q1 : υ → Hp → Prop} (q : PostS K mg W G0 H0 wr σ ρ G ((f ρ).out ρ k) Dd) (ok : StOk K G0 H0 G H σ ρ)
    (c : ∀ a v G1 H1, f ρ = .ok a → Ext G H G1 H1 → rp G1 v a → StOk K G0 H0 G1 H1 σ ρ → PostS K mg W G0 H0 wr σ ρ G1 (k a) Dd → Q1 v H1) : tD K mg W rp f σ H Q1 := by
  refine ⟨G, ρ, ok.ext.sub, ok.env, ?_⟩
  cases e : f ρ with
  | ok a =>
    rw [e] at q
    exact fun v G1 H1 e1 r1 => c a v G1 H1 e e1 r1 (ok.step e1) (PostS.later q (fun _ h => h) e1.gg .refl)
  | ex x =>
    rw [e] at q
    exact fun G1 H1 e1 cc m => q cc σ G1 H1 m (ok.step e1) e1.gg .refl
  | no => rw [e] at q; exact q.elim
theorem outN {f : EnvS → R (List D)} {k : List D → Out} {Q1 : VK} (q : PostS K mg W G0 H0 wr σ ρ G ((f ρ).out ρ k) Dd) (ok : StOk K G0 H0 G H σ ρ)
    (c : ∀ ds a xs G1 H1, Ext G H G1 H1 → H a = none → G1 a = none → H1 a = some (.lst xs) → RpAll K G1 xs ds → StOk K G0 H0 G1 H1 σ ρ → PostS K mg W G0 H0 wr σ ρ G1 (k ds) Dd → Q1 (.ref a) H1) : tN K mg W f σ H Q1 := by
  refine ⟨G, ρ, ok.ext.sub, ok.env, ?_⟩
  cases e : f ρ with
  | ok a =>
    rw [e] at q
    exact fun v xs G1 H1 e1 n1 n2 h1 r1 => c a v xs G1 H1 e1 n1 n2 h1 r1 (ok.step e1) (PostS.later q (fun _ h => h) e1.gg .refl)
  | ex x =>
    rw [e] at q
    exact fun G1 H1 e1 cc m => q cc σ G1 H1 m (ok.step e1) e1.gg .refl
  | no => rw [e] at q; exact q.elim
theorem outL {f : EnvS → R (List D)} {k : List D → Out} {Q1 : VK} (q : PostS K mg W G0 H0 wr σ ρ G ((f ρ).out ρ k) Dd) (ok : StOk K G0 H0 G H σ ρ)
    (c : ∀ ds a xs G1 H1, Ext G H G1 H1 → H1 a = some (.lst xs) → RpAll K G1 xs ds → StOk K G0 H0 G1 H1 σ ρ → PostS K mg W G0 H0 wr σ ρ G1 (k ds) Dd → Q1 (.ref a) H1) : tL K mg W f σ H Q1 := by
  refine ⟨G, ρ, ok.ext.sub, ok.env, ?_⟩
  cases e : f ρ with
  | ok a =>
    rw [e] at q
    exact fun v xs G1 H1 e1 h1 r1 => c a v xs G1 H1 e1 h1 r1 (ok.step e1) (PostS.later q (fun _ h => h) e1.gg .refl)
  | ex x =>
    rw [e] at q
    exact fun G1 H1 e1 cc m => q cc σ G1 H1 m (ok.step e1) e1.gg .refl
  | no => rw [e] at q; exact q.elim
theorem get_set {α : Type} {l : List (Option α)} {i j : Nat} {x : Option α} {y : α} (h : (l.set i x)[j]? = some (some y)) : (j = i ∧ x = some y ∧ i < l.length) ∨ (j ≠ i ∧ l[j]? = some (some y)) := by
  by_cases e : i = j
  · subst e
    have hl : i < l.length := by
      rcases Nat.lt_or_ge i l.length with z | z
      · exact z
      · rw [List.getElem?_eq_none (by rw [List.length_set]; exact z)] at h; cases h
    rw [List.getElem?_set_self hl] at h
    exact .inl ⟨rfl, Option.some.inj h, hl⟩
  · rw [List.getElem?_set_ne e] at h
    exact .inr ⟨Ne.symm e, h⟩
/-- settled data at a place -/
theorem StOk.put (ok : StOk K G0 H0 G H σ ρ) {v : V} {d : D} (r : Rp K G v d) (i : Nat) : StOk K G0 H0 G H (σ.set i (some v)) (ρ.set i (some (.pu d))) := by
  refine ⟨ok.ext, by rw [List.length_set, List.length_set]; exact ok.len, ⟨fun j e h => ?_, fun j ds h => ?_, by rw [List.length_set, List.length_set]; exact ok.len⟩, fun j ds p h h' => ?_, fun j l ds es p hne h1 h2 h3 h4 => ?_⟩
  · rcases get_set h with ⟨rfl, e1, hl⟩ | ⟨hj, h⟩
    · cases e1
      exact ⟨v, List.getElem?_set_self (by rw [ok.len]; exact hl), r⟩
    · rw [List.getElem?_set_ne (Ne.symm hj)]
      exact ok.env.pu j e h
  · rcases get_set h with ⟨rfl, e1, hl⟩ | ⟨hj, h⟩
    · cases e1
    · rw [List.getElem?_set_ne (Ne.symm hj)]
      exact ok.env.ow j ds h
  · rcases get_set h with ⟨rfl, e1, hl⟩ | ⟨hj, h⟩
    · cases e1
    · rw [List.getElem?_set_ne (Ne.symm hj)] at h'
      exact ok.own j ds p h h'
  · rcases get_set h1 with ⟨rfl, e1, hl⟩ | ⟨hj, h1⟩
    · cases e1
    rcases get_set h2 with ⟨rfl, e1, hl⟩ | ⟨hl, h2⟩
    · cases e1
    rw [List.getElem?_set_ne (Ne.symm hj)] at h3
    rw [List.getElem?_set_ne (Ne.symm hl)] at h4
    exact ok.inj j l ds es p hne h1 h2 h3 h4
theorem fr_set {σ : L2.St} {ρ : EnvS} {i : Nat} {v : Option V} {s : Option Sl} : Fr [i] σ ρ (σ.set i v) (ρ.set i s) := fun j hj => by
  have h : i ≠ j := fun e => hj (by rw [e]; exact List.mem_singleton_self _)
  exact ⟨List.getElem?_set_ne h, List.getElem?_set_ne h⟩
/-- a new list of one's own at a place -/
theorem StOk.putOw (ok : StOk K G0 H0 G H σ ρ) {a : Addr} {xs : List V} {ds : List D} (n : G a = none) (h0 : H0 a = none) (ha : H a = some (.lst xs)) (r : RpAll K G xs ds) (i : Nat)
    (hfr : ∀ (j : Nat) (es : List D) , ρ[j]? = some (some (.ow es)) → σ[j]? ≠ some (some (.ref a))) : StOk K G0 H0 G H (σ.set i (some (.ref a))) (ρ.set i (some (.ow ds))) := by
  refine ⟨ok.ext, by rw [List.length_set, List.length_set]; exact ok.len, ⟨fun j e h => ?_, fun j es h => ?_, by rw [List.length_set, List.length_set]; exact ok.len⟩, fun j es p h h' => ?_, fun j l fs es p hne h1 h2 h3 h4 => ?_⟩
  · rcases get_set h with ⟨rfl, e1, hl⟩ | ⟨hj, h⟩
    · cases e1
    · rw [List.getElem?_set_ne (Ne.symm hj)]
      exact ok.env.pu j e h
  · rcases get_set h with ⟨rfl, e1, hl⟩ | ⟨hj, h⟩
    · cases e1
      exact ⟨a, xs, List.getElem?_set_self (by rw [ok.len]; exact hl), ha, n, r⟩
    · rw [List.getElem?_set_ne (Ne.symm hj)]
      exact ok.env.ow j es h
  · rcases get_set h with ⟨rfl, e1, hl⟩ | ⟨hj, h⟩
    · rw [List.getElem?_set_self (by rw [ok.len]; exact hl)] at h'
      cases h'
      exact h0
    · rw [List.getElem?_set_ne (Ne.symm hj)] at h'
      exact ok.own j es p h h'
  · rcases get_set h1 with ⟨rfl, e1, hl⟩ | ⟨hj, hj1⟩
    · rw [List.getElem?_set_self (by rw [ok.len]; exact hl)] at h3
      cases h3
      rw [List.getElem?_set_ne hne] at h4 h2
      exact hfr l es h2 h4
    · rw [List.getElem?_set_ne (Ne.symm hj)] at h3
      rcases get_set h2 with ⟨rfl, e1, hl⟩ | ⟨hl, h2⟩
      · rw [List.getElem?_set_self (by rw [ok.len]; exact hl)] at h4
        cases h4
        exact hfr j fs hj1 h3
      · rw [List.getElem?_set_ne (Ne.symm hl)] at h4
        exact ok.inj j l fs es p hne hj1 h2 h3 h4
/-- one's own list is changed -/
theorem StOk.mut (ok : StOk K G0 H0 G H σ ρ) {i : Nat} {p : Addr} {xs : List V} {ds es : List D} (hi : ρ[i]? = some (some (.ow ds))) (hp : σ[i]? = some (some (.ref p))) (r : RpAll K G xs es) :
    StOk K G0 H0 G (upd H p (.lst xs)) σ (ρ.set i (some (.ow es))) := by
  obtain ⟨p', vs, e1, h1, n1, r1⟩ := ok.env.ow i ds hi
  rw [hp] at e1
  cases e1
  have h0 := ok.own i ds p hi hp
  have hil : i < ρ.length := (List.getElem?_eq_some_iff.mp hi).1
  refine ⟨⟨fun b o hb => ?_, fun b o hb => ?_, ok.ext.gg, ok.ext.fr⟩, by rw [List.length_set]; exact ok.len, ⟨fun j e h => ?_, fun j fs h => ?_, by rw [List.length_set]; exact ok.len⟩, fun j fs q h h' => ?_, fun j l fs gs q hne h1 h2 h3 h4 => ?_⟩
  · rw [upd_ne (ne_of_none hb n1)]
    exact ok.ext.sub _ _ hb
  · rw [upd_ne (ne_of_none hb h0)]
    exact ok.ext.hh _ _ hb
  · rcases get_set h with ⟨rfl, e1, hl⟩ | ⟨hj, h⟩
    · cases e1
    · exact ok.env.pu j e h
  · rcases get_set h with ⟨rfl, e1, hl⟩ | ⟨hj, h⟩
    · cases e1
      exact ⟨p, xs, hp, upd_same, n1, r⟩
    · obtain ⟨q, ws, e2, h2, n2, r2⟩ := ok.env.ow j fs h
      refine ⟨q, ws, e2, ?_, n2, r2⟩
      rw [upd_ne (fun z => ok.inj j i fs ds q hj h hi e2 (by rw [z]; exact hp))]
      exact h2
  · rcases get_set h with ⟨rfl, e1, hl⟩ | ⟨hj, h⟩
    · rw [hp] at h'; cases h'; exact h0
    · exact ok.own j fs q h h'
  · rcases get_set h1 with ⟨rfl, e1, hl⟩ | ⟨hj, hj1⟩
    · rw [List.getElem?_set_ne hne] at h2
      exact ok.inj j l ds gs q hne hi h2 h3 h4
    · rcases get_set h2 with ⟨rfl, e1, hl⟩ | ⟨hl, h2⟩
      · exact ok.inj j l fs ds q hne hj1 hi h3 h4
      · exact ok.inj j l fs gs q hne hj1 h2 h3 h4
end

section
variable {X : Cx} {W : WX} {wr wr1 wr2 : List Nat} {pos : Pos}
/-! ### blocks -/
def nxO : EnvS → Out := fun ρ => .nx ρ
def sqO (g h : EnvS → Out) : EnvS → Out := fun ρ => (g ρ).seq h
theorem ss_nil : PSsD X W [] [] nxO := pss_nil.wk fun Dd σ H ⟨G0, H0, G, ρ, ok, q⟩ => q σ G H ok (.refl _) .refl
theorem ss_one {st : Stmt} {g : EnvS → Out} (h : PSD X W wr st g) : PSsD X W wr [st] g := pss_one h
theorem ss_cons {st : Stmt} {rest : List Stmt} {g h : EnvS → Out} (h1 : PSD X W wr1 st g) (h2 : PSsD X W wr2 rest h) : PSsD X W (wr1 ++ wr2) (st :: rest) (sqO g h) := (pss_cons h1 h2).wk fun Dd σ H ⟨G0, H0, G, ρ, ok, q⟩ => by
  unfold sqO at q
  refine ⟨G0, H0, G, ρ, ok, ?_⟩
  cases e : g ρ with
  | nx ρ1 =>
    rw [e] at q
    exact fun σ1 G1 H1 ok1 s1 f1 => ⟨G0, H0, G1, ρ1, ok1, PostS.later q (fun i h => List.mem_append_right _ h) s1 (f1.mono fun i h => List.mem_append_left _ h)⟩
  | rt d => rw [e] at q; exact q
  | bk ρ1 => rw [e] at q; exact fun σ' G' H' a b c => q σ' G' H' a b (c.mono fun i h => List.mem_append_left _ h)
  | ct ρ1 => rw [e] at q; exact fun σ' G' H' a b c => q σ' G' H' a b (c.mono fun i h => List.mem_append_left _ h)
  | ex x ρ1 => rw [e] at q; exact fun cc σ' G' H' m a b c => q cc σ' G' H' m a b (c.mono fun i h => List.mem_append_left _ h)
  | no => rw [e] at q; exact q
theorem s_pass : PSD X W [] (.Pass pos) nxO := ps_pass.wk fun Dd σ H ⟨G0, H0, G, ρ, ok, q⟩ => q σ G H ok (.refl _) .refl
theorem s_break : PSD X W [] (.Break pos) (fun ρ => .bk ρ) := ps_break.wk fun Dd σ H ⟨G0, H0, G, ρ, ok, q⟩ => q σ G H ok (.refl _) .refl
theorem s_continue : PSD X W [] (.Continue pos) (fun ρ => .ct ρ) := ps_continue.wk fun Dd σ H ⟨G0, H0, G, ρ, ok, q⟩ => q σ G H ok (.refl _) .refl
theorem s_doc {x j pos pos'} : PSD X W [] (.Expr (.Constant (.str x) j pos) pos') nxO := ps_doc.wk fun Dd σ H ⟨G0, H0, G, ρ, ok, q⟩ => q σ G H ok (.refl _) .refl
def rtO (f : EnvS → R D) : EnvS → Out := fun ρ => (f ρ).out ρ fun d => .rt d
theorem s_ret {e : Expr} {f : EnvS → R D} (h : PD X W e f) : PSD X W [] (.Return (some e) pos) (rtO f) := (ps_ret h).wk fun Dd σ H ⟨G0, H0, G, ρ, ok, q⟩ =>
  outE q ok fun d v G1 H1 _ e1 r1 ok1 q1 => q1 v G1 H1 ok1.ext r1
theorem s_retN : PSD X W [] (.Return none pos) (fun _ => .rt .none) := ps_retN.wk fun Dd σ H ⟨G0, H0, G, ρ, ok, q⟩ => q .non G H ok.ext .non
/-- return of one's own list -/
theorem s_retOwn (i : Nat) {x : Str} {p pos : Pos} (hN : X.N[i]? = some x := by rfl) (hv : Vis X.env.scope x := by first | exact Or.inl rfl | exact Or.inr (Or.inl rfl) | exact Or.inr (Or.inr rfl)) (hd : (x == ("__debug__" : Str)) = false := by decide)
    (hcd : (x == ("__classdict__" : Str)) = false := by decide) : PSD X W [] (.Return (some (.Name x p)) pos) (fun ρ => (ownD i ρ).out ρ fun ds => .rt (.list ds)) := (ps_ret (pe_var hN hv hd hcd)).wk fun Dd σ H ⟨G0, H0, G, ρ, ok, q⟩ => by
  unfold ownD at q
  cases e : ρ[i]? with
  | none => simp only [e] at q; exact q.elim
  | some o =>
    cases o with
    | none => simp only [e] at q; exact q.elim
    | some d =>
      cases d with
      | pu d => simp only [e] at q; exact q.elim
      | ow ds =>
        simp only [e] at q
        obtain ⟨p, vs, h1, h2, n1, r1⟩ := ok.env.ow i ds e
        have h0 := ok.own i ds p e h1
        refine ⟨_, h1, q (.ref p) (upd G p (.lst vs)) H ⟨fun b o hb => ?_, ok.ext.hh, ok.ext.gg.trans (same_upd n1), fun b z1 z2 => ?_⟩ (.lst upd_same (r1.up (same_upd n1)))⟩
        · by_cases hab : b = p
          · subst hab; rw [upd_same] at hb; cases hb; exact h2
          · rw [upd_ne hab] at hb; exact ok.ext.sub _ _ hb
        · by_cases hab : b = p
          · subst hab; exact h0
          · rw [upd_ne hab] at z2; exact ok.ext.fr b z1 z2
def exO (f : EnvS → R D) : EnvS → Out := fun ρ => (f ρ).out ρ fun _ => .nx ρ
theorem s_expr {e : Expr} {f : EnvS → R D} (h : PD X W e f) (hs : swapsWith e none pos.line X.env = pure false := by rfl) : PSD X W [] (.Expr e pos) (exO f) := (ps_expr h hs).wk fun Dd σ H ⟨G0, H0, G, ρ, ok, q⟩ =>
  outE q ok fun d v G1 H1 _ e1 r1 ok1 q1 => q1 σ G1 H1 ok1 (.refl _) .refl
def ifO (c : EnvS → R Bool) (g h : EnvS → Out) : EnvS → Out := fun ρ => (c ρ).out ρ fun b => if b = true then g ρ else h ρ
theorem s_if {c : Expr} {a b : List Stmt} {t : EnvS → R Bool} {g h : EnvS → Out} (hc : PTD X W c t) (ha : PSsD X W wr1 a g) (hb : PSsD X W wr2 b h) : PSD X W (wr1 ++ wr2) (.If c a b pos) (ifO t g h) := (ps_if hc ha hb).wk fun Dd σ H ⟨G0, H0, G, ρ, ok, q⟩ =>
  outE q ok fun d v G1 H1 _ e1 r1 ok1 q1 => by
    cases r1
    have mono : ∀ {wr' : List Nat} {o : Out}, (∀ i, i ∈ wr' → i ∈ wr1 ++ wr2) → PostS X.K X.mg W G0 H0 (wr1 ++ wr2) σ ρ G1 o Dd → PostS X.K X.mg W G0 H0 wr' σ ρ G1 o Dd := fun s h => PostS.later h s (.refl _) .refl
    cases d with
    | true => exact ⟨G0, H0, G1, ρ, ok1, mono (fun i h => List.mem_append_left _ h) q1⟩
    | false => exact ⟨G0, H0, G1, ρ, ok1, mono (fun i h => List.mem_append_right _ h) q1⟩
/-! ### stores -/
def stO (i : Nat) (f : EnvS → R D) : EnvS → Out := fun ρ => (f ρ).out ρ fun d => .nx (ρ.set i (some (.pu d)))
def owO (i : Nat) (f : EnvS → R (List D)) : EnvS → Out := fun ρ => (f ρ).out ρ fun d => .nx (ρ.set i (some (.ow d)))
theorem s_setG {st : Stmt} {i : Nat} {f : EnvS → R D} (h : PS X st (tAsg (tD X.K X.mg W (rpE X.K) f) (gName i))) : PSD X W [i] st (stO i f) := h.wk fun Dd σ H ⟨G0, H0, G, ρ, ok, q⟩ =>
  outE q ok fun d v G1 H1 _ e1 r1 ok1 q1 => q1 _ G1 H1 (ok1.put r1 i) (.refl _) fr_set
theorem s_ownG {st : Stmt} {i : Nat} {f : EnvS → R (List D)} (h : PS X st (tAsg (tN X.K X.mg W f) (gName i))) : PSD X W [i] st (owO i f) := h.wk fun Dd σ H ⟨G0, H0, G, ρ, ok, q⟩ =>
  outN q ok fun ds a xs G1 H1 e1 n1 n2 h1 r1 ok1 q1 => q1 _ G1 H1 (ok1.putOw n2 (ok.ext.hh.free n1) h1 r1 i fun j es hj hs => by
    obtain ⟨p, vs, z1, z2, z3, z4⟩ := ok.env.ow j es hj
    rw [hs] at z1
    cases z1
    rw [n1] at z2
    cases z2) (.refl _) fr_set
/-- a new list that is settled at once -/
theorem s_setNG {st : Stmt} {i : Nat} {f : EnvS → R (List D)} (h : PS X st (tAsg (tN X.K X.mg W f) (gName i))) : PSD X W [i] st (stO i (lstF f)) := s_setG (h.wk fun Dd σ H q => tN_of q)
theorem s_set (i : Nat) {x : Str} {e : Expr} {f : EnvS → R D} {pos' : Pos} (hN : X.N.Nodup) (he : PD X W e f) (hi : X.N[i]? = some x := by rfl) (hx : Loc X.env.scope x := by first | exact Or.inl rfl | exact Or.inr rfl) (hs : swapsWith e (some (.Name x pos')) pos.line X.env = pure false := by rfl)
    (hf : X.fn x = true ∨ X.env.scope.names.lookup x = some .local := by first | exact .inl rfl | exact .inr rfl) : PSD X W [i] (.Assign [.Name x pos'] e pos) (stO i f) := s_setG (ps_set hN hi hx he hs hf)
theorem s_own (i : Nat) {x : Str} {e : Expr} {f : EnvS → R (List D)} {pos' : Pos} (hN : X.N.Nodup) (he : PDN X W e f) (hi : X.N[i]? = some x := by rfl) (hx : Loc X.env.scope x := by first | exact Or.inl rfl | exact Or.inr rfl) (hs : swapsWith e (some (.Name x pos')) pos.line X.env = pure false := by rfl)
    (hf : X.fn x = true ∨ X.env.scope.names.lookup x = some .local := by first | exact .inl rfl | exact .inr rfl) : PSD X W [i] (.Assign [.Name x pos'] e pos) (owO i f) := s_ownG (ps_set hN hi hx he hs hf)
end
end TD

/-! TdLoop: targets, unpacking, loops, comprehensions. -/
namespace TD
open PySem PySem.Spec PyProof.Rows L2
/-! ### targets: names, nested tuples of names -/
/-- places filled with settled data -/
structure Put (K : PySem.W.Frag) (G H : Hp) (wr : List Nat) (σ : L2.St) (ρ : EnvS) (σ' : L2.St) (ρ' : EnvS) : Prop where
  len : σ'.length = ρ'.length
  env : EnvE K G H σ' ρ'
  fr : Fr wr σ ρ σ' ρ'
  len' : σ'.length = σ.length
  no : ∀ i ∈ wr, ∀ ds, ρ'[i]? ≠ some (some (.ow ds))
def tG (K : PySem.W.Frag) (wr : List Nat) (h : D → EnvS → R EnvS) : TG := fun v σ H Q => ∃ G ρ d, Same G H ∧ σ.length = ρ.length ∧ EnvE K G H σ ρ ∧ Rp K G v d ∧ ∃ ρ', h d ρ = .ok ρ' ∧ ∀ σ', Put K G H wr σ ρ σ' ρ' → Q σ' H
def tGs (K : PySem.W.Frag) (wr : List Nat) (h : List D → EnvS → R EnvS) : TGs := fun vs σ H Q => ∃ G ρ ds, Same G H ∧ σ.length = ρ.length ∧ EnvE K G H σ ρ ∧ RpAll K G vs ds ∧ ∃ ρ', h ds ρ = .ok ρ' ∧ ∀ σ', Put K G H wr σ ρ σ' ρ' → Q σ' H
abbrev PGD (X : Cx) (wr : List Nat) (e : Expr) (h : D → EnvS → R EnvS) : Prop := PG X e (tG X.K wr h)
abbrev PGsD (X : Cx) (wr : List Nat) (es : List Expr) (h : List D → EnvS → R EnvS) : Prop := PGs X es (tGs X.K wr h)
theorem _root_.L2.PG.wk {X : Cx} {e : Expr} {t t' : TG} (h : PG X e t) (w : ∀ v σ H Q, t' v σ H Q → t v σ H Q) : PG X e t' := ⟨fun pins s σ H v u Q I r q => h.run pins s σ H v u Q I r (w v σ H Q q)⟩
theorem _root_.L2.PGs.wk {X : Cx} {e : List Expr} {t t' : TGs} (h : PGs X e t) (w : ∀ v σ H Q, t' v σ H Q → t v σ H Q) : PGs X e t' := ⟨fun pins s σ H v u Q I r q => h.run pins s σ H v u Q I r (w v σ H Q q)⟩
def nmG (i : Nat) : D → EnvS → R EnvS := fun d ρ => .ok (ρ.set i (some (.pu d)))
def nilG : List D → EnvS → R EnvS := fun ds ρ => match ds with
  | [] => .ok ρ
  | _ => .no
def consG (h : D → EnvS → R EnvS) (k : List D → EnvS → R EnvS) : List D → EnvS → R EnvS := fun ds ρ => match ds with
  | d :: r => (h d ρ).bind fun ρ1 => k r ρ1
  | [] => .no
def tupG (n : Nat) (k : List D → EnvS → R EnvS) : D → EnvS → R EnvS := fun d ρ => match d with
  | .tuple ds => if ds.length = n then k ds ρ else .no
  | _ => .no
theorem put_set {K : PySem.W.Frag} {G H : Hp} {σ : L2.St} {ρ : EnvS} {v : V} {d : D} (hl : σ.length = ρ.length) (he : EnvE K G H σ ρ) (r : Rp K G v d) (i : Nat) : Put K G H [i] σ ρ (σ.set i (some v)) (ρ.set i (some (.pu d))) := by
  refine ⟨by rw [List.length_set, List.length_set]; exact hl, ⟨fun j e h => ?_, fun j ds h => ?_, by rw [List.length_set, List.length_set]; exact hl⟩, fr_set, List.length_set, fun j hj ds h => ?_⟩
  · rcases get_set h with ⟨rfl, e1, hlt⟩ | ⟨hj, h⟩
    · cases e1
      exact ⟨v, List.getElem?_set_self (by rw [hl]; exact hlt), r⟩
    · rw [List.getElem?_set_ne (Ne.symm hj)]
      exact he.pu j e h
  · rcases get_set h with ⟨rfl, e1, hlt⟩ | ⟨hj, h⟩
    · cases e1
    · rw [List.getElem?_set_ne (Ne.symm hj)]
      exact he.ow j ds h
  · rw [List.mem_singleton] at hj
    subst hj
    rcases get_set h with ⟨_, e1, hlt⟩ | ⟨hj, h⟩
    · cases e1
    · exact hj rfl
section
variable {X : Cx} {W : WX} {wr wr1 wr2 : List Nat} {pos : Pos}
theorem g_name (i : Nat) {x : Str} (hN : X.N.Nodup) (hi : X.N[i]? = some x := by rfl) (hx : Loc X.env.scope x := by first | exact Or.inl rfl | exact Or.inr rfl) (hf : X.fn x = true ∨ X.env.scope.names.lookup x = some .local := by first | exact .inl rfl | exact .inr rfl) : PGD X [i] (.Name x pos) (nmG i) :=
  (pg_name hN hi hx hf).wk fun v σ H Q ⟨G, ρ, d, hs, hl, he, r, ρ', e, q⟩ => by
    cases e
    exact q _ (put_set hl he r i)
theorem gs_nil : PGsD X [] [] nilG := pgs_nil.wk fun vs σ H Q ⟨G, ρ, ds, hs, hl, he, r, ρ', e, q⟩ => by
  cases r with
  | nil =>
    cases e
    exact ⟨rfl, q σ ⟨hl, he, .refl, rfl, fun i h => by cases h⟩⟩
  | cons _ _ => cases e
theorem Put.trans {K : PySem.W.Frag} {G H : Hp} {σ σ1 σ2 : L2.St} {ρ ρ1 ρ2 : EnvS} (a : Put K G H wr1 σ ρ σ1 ρ1) (b : Put K G H wr2 σ1 ρ1 σ2 ρ2) : Put K G H (wr1 ++ wr2) σ ρ σ2 ρ2 := by
  refine ⟨b.len, b.env, (a.fr.mono fun i h => List.mem_append_left _ h).trans (b.fr.mono fun i h => List.mem_append_right _ h), b.len'.trans a.len', fun i hi ds h => ?_⟩
  by_cases h2 : i ∈ wr2
  · exact b.no i h2 ds h
  · rw [(b.fr i h2).2] at h
    rcases List.mem_append.mp hi with h1 | h1
    · exact a.no i h1 ds h
    · exact h2 h1
theorem gs_cons {e : Expr} {es : List Expr} {h : D → EnvS → R EnvS} {k : List D → EnvS → R EnvS} (h1 : PGD X wr1 e h) (h2 : PGsD X wr2 es k)
    (hs : (assignEach (e :: es) X.env).map (·.2) = assign e X.env :: (assignEach es X.env).map (·.2) := by rfl) : PGsD X (wr1 ++ wr2) (e :: es) (consG h k) := (pgs_cons h1 h2 hs).wk fun vs σ H Q ⟨G, ρ, ds, hs, hl, he, r, ρ', e, q⟩ => by
  cases r with
  | nil => cases e
  | @cons v vr d dr r1 r2 =>
    unfold consG at e
    dsimp only at e
    cases e1 : h d ρ with
    | ok ρ1 =>
      rw [e1] at e
      exact ⟨v, vr, rfl, G, ρ, d, hs, hl, he, r1, ρ1, e1, fun σ1 p1 => ⟨G, ρ1, _, hs, p1.len, p1.env, r2, ρ', e, fun σ2 p2 => q σ2 (p1.trans p2)⟩⟩
    | ex x => rw [e1] at e; cases e
    | no => rw [e1] at e; cases e
theorem g_tup (n : Nat) {es : List Expr} {k : Nat} {g : List D → EnvS → R EnvS} (h : PGsD X wr es g) (hc : X.calm = true := by rfl)
    (hn : (assignEach es X.env).length = n := by rfl) (hst : (assignEach es X.env).findIdx? (·.1) = none := by rfl) : PGD X wr (.Tuple es k pos) (tupG n g) := (pg_tup hc h hn hst).wk fun v σ H Q ⟨G, ρ, d, hs, hl, he, r, ρ', e, q⟩ => by
  unfold tupG at e
  cases d with
  | tuple ds =>
    dsimp only at e
    split at e
    · rename_i hn
      obtain ⟨a, xs, rfl, h1, g1, p1⟩ := r.seqT hs
      exact ⟨a, xs, rfl, h1, by rw [p1.length]; exact hn, G, ρ, ds, hs, hl, he, p1, ρ', e, q⟩
    · cases e
  | _ => cases e
theorem StOk.puts {K : PySem.W.Frag} {G0 H0 G H : Hp} {σ σ' : L2.St} {ρ ρ' : EnvS} (ok : StOk K G0 H0 G H σ ρ) (p : Put K G H wr σ ρ σ' ρ') : StOk K G0 H0 G H σ' ρ' := by
  have out : ∀ (i : Nat) (ds : List D), ρ'[i]? = some (some (.ow ds)) → i ∉ wr := fun i ds h hi => p.no i hi ds h
  refine ⟨ok.ext, p.len, p.env, fun i ds a h h' => ?_, fun i j ds es a hne h1 h2 h3 h4 => ?_⟩
  · have f := p.fr i (out i ds h)
    rw [f.2] at h
    rw [f.1] at h'
    exact ok.own i ds a h h'
  · have f := p.fr i (out i ds h1)
    have f2 := p.fr j (out j es h2)
    rw [f.2] at h1
    rw [f.1] at h3
    rw [f2.2] at h2
    rw [f2.1] at h4
    exact ok.inj i j ds es a hne h1 h2 h3 h4
/-- target = value -/
def grd (r : R EnvS) : Out := match r with
  | .ok ρ => .nx ρ
  | _ => .no
def unO (f : EnvS → R D) (h : D → EnvS → R EnvS) : EnvS → Out := fun ρ => (f ρ).out ρ fun d => grd (h d ρ)
theorem s_unp {tg e : Expr} {f : EnvS → R D} {h : D → EnvS → R EnvS} (he : PD X W e f) (hg : PGD X wr tg h) (hs : swapsWithSole [tg] e pos.line X.env = pure false := by rfl) (hw : swappedStores [tg] e X.env = pure none := by rfl)
    (h1 : (assignEach [tg] X.env).map (·.2) = [assign tg X.env] := by rfl) : PSD X W wr (.Assign [tg] e pos) (unO f h) := (ps_asg he hg hs hw h1).wk fun Dd σ H ⟨G0, H0, G, ρ, ok, q⟩ =>
  outE q ok fun d v G1 H1 _ e1 r1 ok1 q1 => by
    unfold grd at q1
    cases e : h d ρ with
    | ok ρ' =>
      rw [e] at q1
      exact ⟨G1, ρ, d, ok1.ext.sub, ok1.len, ok1.env, r1, ρ', e, fun σ' p => q1 σ' G1 H1 (ok1.puts p) (.refl _) p.fr⟩
    | ex x => rw [e] at q1; exact q1.elim
    | no => rw [e] at q1; exact q1.elim
/-- a, b = e1, e2 with plain local names -/
def parO (i j : Nat) (g : EnvS → R (List D)) : EnvS → Out := fun ρ => (g ρ).out ρ fun ds => match ds with
  | [a, b] => .nx ((ρ.set i (some (.pu a))).set j (some (.pu b)))
  | _ => .no
theorem s_par (i j : Nat) {x y : Str} {a b : Expr} {px py pt : Pos} {kt k2 pt2} {g : EnvS → R (List D)} (hN : X.N.Nodup) (ha : PAD X W [a, b] g) (hc : X.calm = true := by rfl) (hi : X.N[i]? = some x := by rfl) (hj : X.N[j]? = some y := by rfl) (hij : i ≠ j := by decide)
    (hx : X.env.scope.names.lookup x = some .local := by rfl) (hy : X.env.scope.names.lookup y = some .local := by rfl)
    (hw : swappedStores [.Tuple [.Name x px, .Name y py] kt pt] (.Tuple [a, b] k2 pt2) X.env = pure (some [x, y]) := by rfl) (hs : swapsWithSole [.Tuple [.Name x px, .Name y py] kt pt] (.Tuple [a, b] k2 pt2) pos.line X.env = pure false := by rfl) :
    PSD X W [i, j] (.Assign [.Tuple [.Name x px, .Name y py] kt pt] (.Tuple [a, b] k2 pt2) pos) (parO i j g) := (ps_par hc hN hi hj hij hx hy ha hw hs).wk fun Dd σ H ⟨G0, H0, G, ρ, ok, q⟩ =>
  outE q ok fun ds vs G1 H1 _ e1 r1 ok1 q1 => by
    split at q1
    · rename_i d e
      cases r1 with
      | cons ra rr =>
        cases rr with
        | cons rb rn =>
          cases rn
          exact ⟨_, _, rfl, q1 _ G1 H1 ((ok1.put ra i).put rb j) (.refl _) ((fr_set.mono (by simp)).trans (fr_set.mono (by simp)))⟩
    · exact q1.elim
def par3O (i j l : Nat) (g : EnvS → R (List D)) : EnvS → Out := fun ρ => (g ρ).out ρ fun ds => match ds with
  | [a, b, c] => .nx (((ρ.set i (some (.pu a))).set j (some (.pu b))).set l (some (.pu c)))
  | _ => .no
theorem s_par3 (i j l : Nat) {x y z : Str} {a b c : Expr} {px py pz pt : Pos} {kt k2 pt2} {g : EnvS → R (List D)} (hN : X.N.Nodup) (ha : PAD X W [a, b, c] g) (hc : X.calm = true := by rfl) (hi : X.N[i]? = some x := by rfl) (hj : X.N[j]? = some y := by rfl) (hl : X.N[l]? = some z := by rfl) (hij : i ≠ j := by decide) (hil : i ≠ l := by decide) (hjl : j ≠ l := by decide)
    (hx : X.env.scope.names.lookup x = some .local := by rfl) (hy : X.env.scope.names.lookup y = some .local := by rfl) (hz : X.env.scope.names.lookup z = some .local := by rfl)
    (hw : swappedStores [.Tuple [.Name x px, .Name y py, .Name z pz] kt pt] (.Tuple [a, b, c] k2 pt2) X.env = pure (some [x, y, z]) := by rfl) (hs : swapsWithSole [.Tuple [.Name x px, .Name y py, .Name z pz] kt pt] (.Tuple [a, b, c] k2 pt2) pos.line X.env = pure false := by rfl) :
    PSD X W [i, j, l] (.Assign [.Tuple [.Name x px, .Name y py, .Name z pz] kt pt] (.Tuple [a, b, c] k2 pt2) pos) (par3O i j l g) := (ps_par3 hc hN hi hj hl hij hil hjl hx hy hz ha hw hs).wk fun Dd σ H ⟨G0, H0, G, ρ, ok, q⟩ =>
  outE q ok fun ds vs G1 H1 _ e1 r1 ok1 q1 => by
    split at q1
    · rename_i d e f
      cases r1 with
      | cons ra rr =>
        cases rr with
        | cons rb rn =>
          cases rn with
          | cons rc rz =>
            cases rz
            exact ⟨_, _, _, rfl, q1 _ G1 H1 (((ok1.put ra i).put rb j).put rc l) (.refl _) (((fr_set.mono (by simp)).trans (fr_set.mono (by simp))).trans (fr_set.mono (by simp)))⟩
    · exact q1.elim
/-- a, b = two new lists of one's own -/
def parNO (i j : Nat) (f g : EnvS → R (List D)) : EnvS → Out := fun ρ => (f ρ).out ρ fun ds => (g ρ).out ρ fun es => .nx ((ρ.set i (some (.ow ds))).set j (some (.ow es)))
theorem s_parN (i j : Nat) {x y : Str} {a b : Expr} {px py pt : Pos} {kt k2 pt2} {f g : EnvS → R (List D)} (hN : X.N.Nodup) (ha : PDN X W a f) (hb : PDN X W b g) (hc : X.calm = true := by rfl) (hi : X.N[i]? = some x := by rfl) (hj : X.N[j]? = some y := by rfl) (hij : i ≠ j := by decide)
    (hx : X.env.scope.names.lookup x = some .local := by rfl) (hy : X.env.scope.names.lookup y = some .local := by rfl)
    (h1 : starEach [a, b] X.env = (false, eval a X.env) :: starEach [b] X.env := by rfl) (h2 : starEach [b] X.env = (false, eval b X.env) :: starEach [] X.env := by rfl)
    (hw : swappedStores [.Tuple [.Name x px, .Name y py] kt pt] (.Tuple [a, b] k2 pt2) X.env = pure (some [x, y]) := by rfl) (hs : swapsWithSole [.Tuple [.Name x px, .Name y py] kt pt] (.Tuple [a, b] k2 pt2) pos.line X.env = pure false := by rfl) :
    PSD X W [i, j] (.Assign [.Tuple [.Name x px, .Name y py] kt pt] (.Tuple [a, b] k2 pt2) pos) (parNO i j f g) := (ps_par hc hN hi hj hij hx hy (pa_cons ha (pa_cons hb pa_nil h2) h1) hw hs).wk fun Dd σ H ⟨G0, H0, G, ρ, ok, q⟩ =>
  outN q ok fun ds p xs G1 H1 e1 m1 n1 h1 r1 ok1 q1 => outN q1 ok1 fun es p2 ys G2 H2 e2 m2 n2 h2 r2 ok2 q2 => by
    have m0 := ok.ext.hh.free m1
    have hne : p ≠ p2 := ne_of_none h1 m2
    have hp : H2 p = some (.lst xs) := e2.hh _ _ h1
    have np : G2 p = none := by
      by_cases z : G2 p = none
      · exact z
      · rw [e2.fr p n1 z] at h1; cases h1
    have fresh : ∀ (j : Nat) (es : List D), ρ[j]? = some (some (.ow es)) → σ[j]? ≠ some (some (.ref p)) := fun j es hj hs => by
      obtain ⟨p', vs, z1, z2, _, _⟩ := ok.env.ow j es hj
      rw [hs] at z1; cases z1
      rw [m1] at z2; cases z2
    have ok3 := ok2.putOw np m0 hp (r1.up e2.gg) i fresh
    have ok4 := ok3.putOw n2 (ok1.ext.hh.free m2) h2 r2 j fun l fs hl hs => by
      rcases get_set hl with ⟨rfl, z, hlt⟩ | ⟨hj', hl'⟩
      · rw [List.getElem?_set_self (by rw [ok2.len]; exact hlt)] at hs
        cases hs
        exact hne rfl
      · rw [List.getElem?_set_ne (Ne.symm hj')] at hs
        obtain ⟨p', vs, z1, z2, _, _⟩ := ok1.env.ow l fs hl'
        rw [hs] at z1; cases z1
        rw [m2] at z2; cases z2
    exact ⟨_, _, rfl, q2 _ G2 H2 ok4 (.refl _) ((fr_set.mono (by simp)).trans (fr_set.mono (by simp)))⟩
/-- name op= e -/
def IpD (X : Cx) (r : TIp) (k : D → D → R D) : Prop := ∀ (a b : D) (x y : V) (G H : Hp) (Wx : Str → Hp → Prop) (Q : VK), Same G H → Rp X.K G x a → Rp X.K G y b → Post (rpE X.K) Wx G H (k a b) Q → r x y H Q
def augO (i : Nat) (k : D → D → R D) (f : EnvS → R D) : EnvS → Out := fun ρ => match ρ[i]? with
  | some (some (.pu a)) => (f ρ).out ρ fun b => (k a b).out ρ fun c => .nx (ρ.set i (some (.pu c)))
  | _ => .no
theorem s_aug (i : Nat) {x : Str} {e : Expr} {op : Operator} {ti : TIp} {pos' : Pos} {k : D → D → R D} {f : EnvS → R D} (hN : X.N.Nodup) (he : PD X W e f) (ho : PIp X op ti) (hk : IpD X ti k) (hi : X.N[i]? = some x := by rfl) (hx : Loc X.env.scope x := by first | exact Or.inl rfl | exact Or.inr rfl)
    (hf : X.fn x = true ∨ X.env.scope.names.lookup x = some .local := by first | exact .inl rfl | exact .inr rfl) : PSD X W [i] (.AugAssign (.Name x pos') op e pos) (augO i k f) := (ps_aug hN hi hx he ho hf).wk fun Dd σ H ⟨G0, H0, G, ρ, ok, q⟩ => by
  unfold augO at q
  split at q
  · rename_i a ha
    obtain ⟨v, h1, r1⟩ := ok.env.pu i a ha
    refine ⟨v, h1, outE q ok fun b u G1 H1 _ e1 r2 ok1 q1 => ?_⟩
    refine hk a b v u G1 H1 (Wxo X.mg W σ) _ ok1.ext.sub (r1.up e1.gg) r2 ?_
    cases e : k a b with
    | ok c =>
      rw [e] at q1
      exact fun w G2 H2 e2 r3 => q1 _ G2 H2 ((ok1.step e2).put r3 i) e2.gg fr_set
    | ex x =>
      rw [e] at q1
      exact fun G2 H2 e2 cc m => q1 cc σ G2 H2 m (ok1.step e2) e2.gg .refl
    | no => rw [e] at q1; exact q1.elim
  · exact q.elim
def ipAdd : D → D → R D
  | .int a, .int b => .ok (.int (a + b))
  | _, _ => .no
theorem id_add : IpD X (ipI fun i j => i + j) ipAdd := by
  intro a b x y G H Wx Q hs ra rb q
  unfold ipAdd at q
  split at q
  · cases ra; cases rb
    exact ⟨_, _, rfl, rfl, q.done hs (.int _)⟩
  · exact q.elim
theorem id_sub : IpD X (ipI fun i j => i - j) subD := by
  intro a b x y G H Wx Q hs ra rb q
  unfold subD at q
  split at q
  · cases ra; cases rb
    exact ⟨_, _, rfl, rfl, q.done hs (.int _)⟩
  · exact q.elim

/-! ### one's own list: append, extend, pop, an item stored -/
def appO (i : Nat) (f : EnvS → R D) : EnvS → Out := fun ρ => match ρ[i]? with
  | some (some (.ow ds)) => (f ρ).out ρ fun d => if lineOk (ds.length + 1) then .nx (ρ.set i (some (.ow (ds ++ [d])))) else .no
  | _ => .no
theorem lineOk_lt {n : Nat} (h : lineOk (n + 1) = true) : n < sizeLine := lineOk_le h
theorem s_app (i : Nat) {x : Str} {e : Expr} {p apos cpos pos : Pos} {f : EnvS → R D} (he : PD X W e f) (hN : X.N[i]? = some x := by rfl) (hv : Vis X.env.scope x := by first | exact Or.inl rfl | exact Or.inr (Or.inl rfl) | exact Or.inr (Or.inr rfl)) (hd : (x == ("__debug__" : Str)) = false := by decide)
    (hcd : (x == ("__classdict__" : Str)) = false := by decide)
    (hbase : attributeBase (.Name x p) "append" X.env (eval (.Name x p) X.env) = eval (.Name x p) X.env := by rfl)
    (hfew : ((backTo cpos (starEach [e] X.env)).all (fun x => !x.1) && (backToKw cpos (keywordEach [] X.env)).all (fun x => x.1.isSome)
      && decide ([e].length + ([] : List Keyword).length + (if ([] : List Keyword).isEmpty then 0 else 1) < 30)) = true := by rfl)
    (hline : (apos.endLine == cpos.line) = true := by rfl) (hs : starEach [e] X.env = (false, eval e X.env) :: starEach [] X.env := by rfl)
    (hsw : swapsWith (.Call (.Attribute (.Name x p) "append" apos) [e] [] cpos) none pos.line X.env = pure false := by rfl) :
    PSD X W [i] (.Expr (.Call (.Attribute (.Name x p) "append" apos) [e] [] cpos) pos) (appO i f) :=
  (ps_expr (pe_bm PySem.F.plainAttrs_list PySem.F.slot_list_append PySem.F.type_list_append mt_append (pe_var hN hv hd hcd) (pa_cons he pa_nil hs) hbase hfew hline hs rfl) hsw).wk fun Dd σ H ⟨G0, H0, G, ρ, ok, q⟩ => by
    unfold appO at q
    split at q
    · rename_i ds hi
      obtain ⟨a, xs, h1, h2, n1, r1⟩ := ok.env.ow i ds hi
      refine ⟨_, h1, .inl ⟨rfl, xs, SqL.of h2⟩, outE q ok fun d v G1 H1 _ e1 rd ok1 q1 => ?_⟩
      split at q1
      · rename_i hl
        refine ⟨a, xs, v, rfl, rfl, e1.hh _ _ h2, by rw [r1.length]; exact lineOk_lt hl, ?_⟩
        exact q1 σ G1 _ (ok1.mut hi h1 ((r1.up e1.gg).append (.one rd))) (.refl _) fun j hj => ⟨rfl, List.getElem?_set_ne (fun z => hj (by rw [z]; exact List.mem_singleton_self _))⟩
      · exact q1.elim
    · exact q.elim
def extO (i : Nat) (f : EnvS → R (List D)) : EnvS → Out := fun ρ => match ρ[i]? with
  | some (some (.ow ds)) => (f ρ).out ρ fun es => if lineOk (ds.length + es.length) then .nx (ρ.set i (some (.ow (ds ++ es)))) else .no
  | _ => .no
theorem s_ext (i : Nat) {x : Str} {e : Expr} {p apos cpos pos : Pos} {f : EnvS → R (List D)} (he : PDL X W e f) (hN : X.N[i]? = some x := by rfl) (hv : Vis X.env.scope x := by first | exact Or.inl rfl | exact Or.inr (Or.inl rfl) | exact Or.inr (Or.inr rfl)) (hd : (x == ("__debug__" : Str)) = false := by decide)
    (hcd : (x == ("__classdict__" : Str)) = false := by decide)
    (hbase : attributeBase (.Name x p) "extend" X.env (eval (.Name x p) X.env) = eval (.Name x p) X.env := by rfl)
    (hfew : ((backTo cpos (starEach [e] X.env)).all (fun x => !x.1) && (backToKw cpos (keywordEach [] X.env)).all (fun x => x.1.isSome)
      && decide ([e].length + ([] : List Keyword).length + (if ([] : List Keyword).isEmpty then 0 else 1) < 30)) = true := by rfl)
    (hline : (apos.endLine == cpos.line) = true := by rfl) (hs : starEach [e] X.env = (false, eval e X.env) :: starEach [] X.env := by rfl)
    (hsw : swapsWith (.Call (.Attribute (.Name x p) "extend" apos) [e] [] cpos) none pos.line X.env = pure false := by rfl) :
    PSD X W [i] (.Expr (.Call (.Attribute (.Name x p) "extend" apos) [e] [] cpos) pos) (extO i f) :=
  (ps_expr (pe_bm PySem.F.plainAttrs_list PySem.F.slot_list_extend PySem.F.type_list_extend mt_extend (pe_var hN hv hd hcd) (pa_cons he pa_nil hs) hbase hfew hline hs rfl) hsw).wk fun Dd σ H ⟨G0, H0, G, ρ, ok, q⟩ => by
    unfold extO at q
    split at q
    · rename_i ds hi
      obtain ⟨a, xs, h1, h2, n1, r1⟩ := ok.env.ow i ds hi
      refine ⟨_, h1, .inl ⟨rfl, xs, SqL.of h2⟩, outL q ok fun es b ys G1 H1 e1 hb rd ok1 q1 => ?_⟩
      split at q1
      · rename_i hl
        refine ⟨a, b, xs, ys, rfl, rfl, e1.hh _ _ h2, hb, by rw [r1.length, rd.length]; exact lineOk_le hl, ?_⟩
        exact q1 σ G1 _ (ok1.mut hi h1 ((r1.up e1.gg).append rd)) (.refl _) fun j hj => ⟨rfl, List.getElem?_set_ne (fun z => hj (by rw [z]; exact List.mem_singleton_self _))⟩
      · exact q1.elim
    · exact q.elim
end
end TD

/-! TdFor: what is walked; for, while, comprehensions; calls of defs, raise; the rule for a def. -/
namespace TD
open PySem PySem.Spec PyProof.Rows L2
/-! ### what is walked -/
/-- the walk gives these data, whatever settled heap it is in -/
structure Walk (K : PySem.W.Frag) (J : It) (G : Hp) (ds : List D) : Prop where
  go : ∀ (i : Nat) (d : D) (G2 H2 : Hp), ds[i]? = some d → Same G G2 → Same G2 H2 → J.go i H2
  yld : ∀ (i : Nat) (d : D) (x : V) (G2 H2 H3 : Hp), ds[i]? = some d → Same G G2 → Same G2 H2 → J.yld i H2 x H3 → ∃ G3, Ext G2 H2 G3 H3 ∧ Rp K G3 x d
  stop : ∀ (G2 H2 : Hp), Same G G2 → Same G2 H2 → J.stop ds.length H2
/-- the same, where all that is tracked stays -/
structure WalkH (K : PySem.W.Frag) (J : It) (G H : Hp) (ds : List D) : Prop where
  go : ∀ (i : Nat) (d : D) (G2 H2 : Hp), ds[i]? = some d → Ext G H G2 H2 → J.go i H2
  yld : ∀ (i : Nat) (d : D) (x : V) (G2 H2 H3 : Hp), ds[i]? = some d → Ext G H G2 H2 → J.yld i H2 x H3 → ∃ G3, Ext G2 H2 G3 H3 ∧ Rp K G3 x d
  stop : ∀ (G2 H2 : Hp), Ext G H G2 H2 → J.stop ds.length H2
theorem Walk.toH {K : PySem.W.Frag} {J : It} {G H : Hp} {ds : List D} (w : Walk K J G ds) : WalkH K J G H ds := ⟨fun i d G2 H2 h e => w.go i d G2 H2 h e.gg e.sub, fun i d x G2 H2 H3 h e => w.yld i d x G2 H2 H3 h e.gg e.sub, fun G2 H2 e => w.stop G2 H2 e.gg e.sub⟩
theorem walk_list {K : PySem.W.Frag} {G : Hp} {a : Addr} {xs : List V} {ds : List D} (h : G a = some (.lst xs)) (r : RpAll K G xs ds) : Walk K (Itl K a) G ds := by
  refine ⟨fun i d G2 H2 hd e1 e2 => ?_, fun i d x G2 H2 H3 hd e1 e2 hy => ?_, fun G2 H2 e1 e2 => ⟨xs, SqL.of (e2 _ _ (e1 _ _ h)), by rw [r.length]; exact Nat.le_refl _⟩⟩
  · obtain ⟨v, hv, _⟩ := r.get hd
    exact ⟨xs, v, SqL.of (e2 _ _ (e1 _ _ h)), hv⟩
  · obtain ⟨rfl, hx⟩ := hy
    obtain ⟨v, hv, rv⟩ := r.get hd
    have := hx xs (SqL.of (e2 _ _ (e1 _ _ h)))
    rw [hv] at this
    cases this
    exact ⟨G2, .refl e2, rv.up e1⟩
theorem walkH_list {K : PySem.W.Frag} {G H : Hp} {a : Addr} {xs : List V} {ds : List D} (h : H a = some (.lst xs)) (r : RpAll K G xs ds) : WalkH K (Itl K a) G H ds := by
  refine ⟨fun i d G2 H2 hd e => ?_, fun i d x G2 H2 H3 hd e hy => ?_, fun G2 H2 e => ⟨xs, SqL.of (e.hh _ _ h), by rw [r.length]; exact Nat.le_refl _⟩⟩
  · obtain ⟨v, hv, _⟩ := r.get hd
    exact ⟨xs, v, SqL.of (e.hh _ _ h), hv⟩
  · obtain ⟨rfl, hx⟩ := hy
    obtain ⟨v, hv, rv⟩ := r.get hd
    have := hx xs (SqL.of (e.hh _ _ h))
    rw [hv] at this
    cases this
    exact ⟨G2, .refl e.sub, rv.up e.gg⟩
theorem walk_tup {K : PySem.W.Frag} {G : Hp} {a : Addr} {xs : List V} {ds : List D} (h : SqT K G a xs) (r : RpAll K G xs ds) : Walk K (Itt K a) G ds := by
  refine ⟨fun i d G2 H2 hd e1 e2 => ?_, fun i d x G2 H2 H3 hd e1 e2 hy => ?_, fun G2 H2 e1 e2 => ⟨xs, TD.Same.seqT (e1.trans e2) h, by rw [r.length]; exact Nat.le_refl _⟩⟩
  · obtain ⟨v, hv, _⟩ := r.get hd
    exact ⟨xs, v, TD.Same.seqT (e1.trans e2) h, hv⟩
  · obtain ⟨rfl, hx⟩ := hy
    obtain ⟨v, hv, rv⟩ := r.get hd
    have := hx xs (TD.Same.seqT (e1.trans e2) h)
    rw [hv] at this
    cases this
    exact ⟨G2, .refl e2, rv.up e1⟩
def rngD (lo : Int) (n : Nat) : List D := (List.range n).map fun i => .int (lo + (i : Nat))
theorem rngD_get {lo : Int} {n i : Nat} {d : D} (h : (rngD lo n)[i]? = some d) : i < n ∧ d = .int (lo + (i : Nat)) := by
  unfold rngD at h
  rw [List.getElem?_map] at h
  cases e : (List.range n)[i]? with
  | none => rw [e] at h; cases h
  | some j =>
    rw [e] at h
    obtain ⟨h1, h2⟩ := List.getElem?_eq_some_iff.mp e
    rw [List.getElem_range] at h2
    subst h2
    rw [List.length_range] at h1
    cases h
    exact ⟨h1, rfl⟩
theorem rngD_len {lo : Int} {n : Nat} : (rngD lo n).length = n := by unfold rngD; rw [List.length_map, List.length_range]
theorem walk_rng {K : PySem.W.Frag} {G : Hp} {lo : Int} {n : Nat} : Walk K (Itr lo n) G (rngD lo n) := by
  refine ⟨fun i d G2 H2 hd e1 e2 => (rngD_get hd).1, fun i d x G2 H2 H3 hd e1 e2 hy => ?_, fun G2 H2 e1 e2 => by rw [rngD_len]; exact Nat.le_refl _⟩
  obtain ⟨rfl, rfl⟩ := hy
  obtain ⟨_, rfl⟩ := rngD_get hd
  exact ⟨G2, .refl e2, .int _⟩
def enumFrom (k : Nat) : List D → List D
  | [] => []
  | d :: r => .tuple [.int (k : Nat), d] :: enumFrom (k + 1) r
theorem enumFrom_len : ∀ (ds : List D) (k : Nat), (enumFrom k ds).length = ds.length
  | [], _ => rfl
  | d :: r, k => by unfold enumFrom; rw [List.length_cons, List.length_cons, enumFrom_len r]
theorem enumFrom_get : ∀ (ds : List D) (k i : Nat) (d : D), (enumFrom k ds)[i]? = some d → ∃ e, ds[i]? = some e ∧ d = .tuple [.int ((k + i : Nat) : Int), e]
  | [], _, _, _, h => by simp [enumFrom] at h
  | e :: r, k, 0, d, h => by simp [enumFrom] at h; exact ⟨e, rfl, by rw [← h]; simp⟩
  | e :: r, k, i + 1, d, h => by
    have h' : (enumFrom (k + 1) r)[i]? = some d := by simpa [enumFrom] using h
    obtain ⟨x, h1, h2⟩ := enumFrom_get r (k + 1) i d h'
    exact ⟨x, by simpa using h1, by rw [h2]; congr 3; omega⟩
theorem walk_enum {K : PySem.W.Frag} {G : Hp} {a : Addr} {xs : List V} {ds : List D} (h : G a = some (.lst xs)) (r : RpAll K G xs ds) : Walk K (Ite K a) G (enumFrom 0 ds) := by
  refine ⟨fun i d G2 H2 hd e1 e2 => ?_, fun i d x G2 H2 H3 hd e1 e2 hy => ?_, fun G2 H2 e1 e2 => ⟨xs, SqL.of (e2 _ _ (e1 _ _ h)), by rw [r.length, enumFrom_len]; exact Nat.le_refl _⟩⟩
  · obtain ⟨e, he, _⟩ := enumFrom_get ds 0 i d hd
    obtain ⟨v, hv, _⟩ := r.get he
    exact ⟨xs, v, SqL.of (e2 _ _ (e1 _ _ h)), hv⟩
  · obtain ⟨e, he, rfl⟩ := enumFrom_get ds 0 i d hd
    obtain ⟨T, y, rfl, hT, rfl, hy⟩ := hy
    obtain ⟨v, hv, rv⟩ := r.get he
    have := hy xs (SqL.of (e2 _ _ (e1 _ _ h)))
    rw [hv] at this
    cases this
    have ex := Ext.new (o := .tup [.int (i : Nat), y]) e2 hT
    rw [Nat.zero_add]
    exact ⟨_, ex, .tup (SqT.of upd_same) (.cons (.int _) (.one ((rv.up e1).up ex.gg)))⟩
def zipD : List D → List D → List D
  | a :: r, b :: s => .tuple [a, b] :: zipD r s
  | _, _ => []
theorem zipD_get : ∀ (as bs : List D) (i : Nat) (d : D), (zipD as bs)[i]? = some d → ∃ a b, as[i]? = some a ∧ bs[i]? = some b ∧ d = .tuple [a, b]
  | [], _, _, _, h => by simp [zipD] at h
  | _ :: _, [], _, _, h => by simp [zipD] at h
  | a :: r, b :: s, 0, d, h => by simp [zipD] at h; exact ⟨a, b, rfl, rfl, h.symm⟩
  | a :: r, b :: s, i + 1, d, h => by
    have h' : (zipD r s)[i]? = some d := by simpa [zipD] using h
    obtain ⟨x, y, h1, h2, h3⟩ := zipD_get r s i d h'
    exact ⟨x, y, by simpa using h1, by simpa using h2, h3⟩
theorem zipD_len : ∀ (as bs : List D), as.length ≤ (zipD as bs).length ∨ bs.length ≤ (zipD as bs).length
  | [], _ => .inl (Nat.zero_le _)
  | _ :: _, [] => .inr (Nat.zero_le _)
  | a :: r, b :: s => by
    unfold zipD
    rw [List.length_cons, List.length_cons, List.length_cons]
    rcases zipD_len r s with h | h
    · exact .inl (Nat.succ_le_succ h)
    · exact .inr (Nat.succ_le_succ h)
theorem walk_zip {K : PySem.W.Frag} {G : Hp} {a b : Addr} {xs ys : List V} {ds es : List D} (h : G a = some (.lst xs)) (h' : G b = some (.lst ys)) (r : RpAll K G xs ds) (r' : RpAll K G ys es) : Walk K (Itz K a b) G (zipD ds es) := by
  refine ⟨fun i d G2 H2 hd e1 e2 => ?_, fun i d x G2 H2 H3 hd e1 e2 hy => ?_, fun G2 H2 e1 e2 => ⟨xs, ys, SqL.of (e2 _ _ (e1 _ _ h)), SqL.of (e2 _ _ (e1 _ _ h')), by rw [r.length, r'.length]; exact zipD_len ds es⟩⟩
  · obtain ⟨x, y, hx, hy, _⟩ := zipD_get ds es i d hd
    obtain ⟨v, hv, _⟩ := r.get hx
    obtain ⟨u, hu, _⟩ := r'.get hy
    exact ⟨xs, ys, v, u, SqL.of (e2 _ _ (e1 _ _ h)), SqL.of (e2 _ _ (e1 _ _ h')), hv, hu⟩
  · obtain ⟨x, y, hx, hy', rfl⟩ := zipD_get ds es i d hd
    obtain ⟨T, p, q, rfl, hT, rfl, z1, z2⟩ := hy
    obtain ⟨v, hv, rv⟩ := r.get hx
    obtain ⟨u, hu, ru⟩ := r'.get hy'
    have t1 := z1 xs (SqL.of (e2 _ _ (e1 _ _ h)))
    have t2 := z2 ys (SqL.of (e2 _ _ (e1 _ _ h')))
    rw [hv] at t1
    rw [hu] at t2
    cases t1
    cases t2
    have ex := Ext.new (o := .tup [p, q]) e2 hT
    exact ⟨_, ex, .tup (SqT.of upd_same) (.cons ((rv.up e1).up ex.gg) (.one ((ru.up e1).up ex.gg)))⟩
theorem walk_zipT {K : PySem.W.Frag} {G : Hp} {a b : Addr} {xs ys : List V} {ds es : List D} (h : SqT K G a xs) (h' : SqT K G b ys) (r : RpAll K G xs ds) (r' : RpAll K G ys es) : Walk K (RZ.ItzT K a b) G (zipD ds es) := by
  refine ⟨fun i d G2 H2 hd e1 e2 => ?_, fun i d x G2 H2 H3 hd e1 e2 hy => ?_, fun G2 H2 e1 e2 => ⟨xs, ys, TD.Same.seqT (e1.trans e2) h, TD.Same.seqT (e1.trans e2) h', by rw [r.length, r'.length]; exact zipD_len ds es⟩⟩
  · obtain ⟨x, y, hx, hy, _⟩ := zipD_get ds es i d hd
    obtain ⟨v, hv, _⟩ := r.get hx
    obtain ⟨u, hu, _⟩ := r'.get hy
    exact ⟨xs, ys, v, u, TD.Same.seqT (e1.trans e2) h, TD.Same.seqT (e1.trans e2) h', hv, hu⟩
  · obtain ⟨x, y, hx, hy', rfl⟩ := zipD_get ds es i d hd
    obtain ⟨T, p, q, rfl, hT, rfl, z1, z2⟩ := hy
    obtain ⟨v, hv, rv⟩ := r.get hx
    obtain ⟨u, hu, ru⟩ := r'.get hy'
    have t1 := z1 xs (TD.Same.seqT (e1.trans e2) h)
    have t2 := z2 ys (TD.Same.seqT (e1.trans e2) h')
    rw [hv] at t1
    rw [hu] at t2
    cases t1
    cases t2
    have ex := Ext.new (o := .tup [p, q]) e2 hT
    exact ⟨_, ex, .tup (SqT.of upd_same) (.cons ((rv.up e1).up ex.gg) (.one ((ru.up e1).up ex.gg)))⟩

def PostI (K : PySem.W.Frag) (Wx : Str → Hp → Prop) (G H : Hp) (r : R (List D)) (Q : It → Hp → Prop) : Prop :=
  match r with
  | .ok ds => ∀ J G' H', Ext G H G' H' → Walk K J G' ds → Q J H'
  | .ex x => ∀ G' H', Ext G H G' H' → Wx x H'
  | .no => False
theorem PostI.fin {K : PySem.W.Frag} {Wx : Str → Hp → Prop} {Q : It → Hp → Prop} : Fin Wx (fun r G H => PostI K Wx G H r Q) := by
  refine ⟨fun r G H G1 H1 h e => ?_, fun _ _ _ h => h, fun _ _ h => h⟩
  cases r with
  | ok ds => exact fun J G' H' e' h1 => h J G' H' (e.trans e') h1
  | ex x => exact fun G' H' e' => h G' H' (e.trans e')
  | no => exact h
def PostJ (K : PySem.W.Frag) (Wx : Str → Hp → Prop) (G H : Hp) (r : R (List D)) (Q : It → Hp → Prop) : Prop :=
  match r with
  | .ok ds => ∀ J G' H', Ext G H G' H' → WalkH K J G' H' ds → Q J H'
  | .ex x => ∀ G' H', Ext G H G' H' → Wx x H'
  | .no => False
theorem PostJ.fin {K : PySem.W.Frag} {Wx : Str → Hp → Prop} {Q : It → Hp → Prop} : Fin Wx (fun r G H => PostJ K Wx G H r Q) := by
  refine ⟨fun r G H G1 H1 h e => ?_, fun _ _ _ h => h, fun _ _ h => h⟩
  cases r with
  | ok ds => exact fun J G' H' e' h1 => h J G' H' (e.trans e') h1
  | ex x => exact fun G' H' e' => h G' H' (e.trans e')
  | no => exact h
def tI (K : PySem.W.Frag) (mg : Str → Option Value) (W : WX) (f : EnvS → R (List D)) : TI := fun σ H Q => ∃ G ρ, Same G H ∧ EnvE K G H σ ρ ∧ PostI K (Wxo mg W σ) G H (f ρ) Q
def tJ (K : PySem.W.Frag) (mg : Str → Option Value) (W : WX) (f : EnvS → R (List D)) : TI := fun σ H Q => ∃ G ρ, Same G H ∧ EnvE K G H σ ρ ∧ PostJ K (Wxo mg W σ) G H (f ρ) Q
abbrev PID (X : Cx) (W : WX) (tg e : Expr) (f : EnvS → R (List D)) : Prop := PI X tg e (tI X.K X.mg W f)
abbrev PJD (X : Cx) (W : WX) (tg e : Expr) (f : EnvS → R (List D)) : Prop := PI X tg e (tJ X.K X.mg W f)
theorem _root_.L2.PI.wk {X : Cx} {tg e : Expr} {t t' : TI} (h : PI X tg e t) (w : ∀ σ H Q, t' σ H Q → t σ H Q) : PI X tg e t' := ⟨fun pins s σ H Q I q => h.run pins s σ H Q I (w σ H Q q)⟩
section
variable {X : Cx} {W : WX} {wr wr1 wr2 : List Nat} {pos : Pos} {tg e : Expr}
theorem j_of {f : EnvS → R (List D)} (h : PID X W tg e f) : PJD X W tg e f := L2.PI.wk h fun σ H Q ⟨G, ρ, hs, he, q⟩ => by
  refine ⟨G, ρ, hs, he, ?_⟩
  cases ef : f ρ with
  | ok ds => rw [ef] at q; exact fun J G' H' e w => q J G' H' e w.toH
  | ex x => rw [ef] at q; exact q
  | no => rw [ef] at q; exact q
def seqF (f : EnvS → R D) : EnvS → R (List D) := fun ρ => (f ρ).bind fun d => match d with
  | .list ds => .ok ds
  | .tuple ds => .ok ds
  | .str x => if lineOk x.length then .ok (x.cps.toList.map fun c => .str ⟨#[c]⟩) else .no
  | _ => .no
def iSeq (K : PySem.W.Frag) (te : TE) : TI := fun σ H R => te σ H fun v H1 => (∃ a, v = .ref a ∧ (∃ xs, SqL K H1 a xs) ∧ R (Itl K a) H1) ∨ (∃ a, v = .ref a ∧ (∃ xs, SqT K H1 a xs) ∧ R (Itt K a) H1) ∨ ∃ x, v = .str x ∧ R (Its x) H1
theorem pi_seq {te : TE} (h : PE X e te) : PI X tg e (iSeq X.K te) := by
  refine ⟨fun pins s σ H R I q => ?_⟩
  refine thn (h.run pins s σ H _ I q) fun v s1 ⟨x, H1, I1, r1, q1⟩ => ?_
  rcases q1 with ⟨a, rfl, ⟨xs, hq⟩, q⟩ | ⟨a, rfl, ⟨xs, hq⟩, q⟩ | ⟨x, rfl, q⟩
  · cases r1
    obtain ⟨its, rv, p, hz⟩ := I1.list hq
    refine wpAny_pyIter_list p.isList ?_
    refine ⟨s1.heap.objs.size, [s1.heap.objs.size], _, _, H1, rfl, I1.kept (t' := s1.toks) fun b o e => Heap.get?_push_of_some _ e, turn_list a _, ⟨_, Heap.get?_push_size _ rfl, rfl, rfl⟩, fun b hb => ?_, q⟩
    have e : b = s1.heap.objs.size := by simpa using hb
    subst e
    exact I1.fpOk (Nat.le_refl _) (I1.hok.fresh (Nat.le_refl _))
  · cases r1
    obtain ⟨its, rv, p, hz⟩ := I1.tuple hq
    refine wpAny_pyIter_tuple (show s1.heap.IsTuple a its.toArray from p) ?_
    refine ⟨s1.heap.objs.size, [s1.heap.objs.size], _, _, H1, rfl, I1.kept (t' := s1.toks) fun b o e => Heap.get?_push_of_some _ e, turn_tuple a _, ⟨_, Heap.get?_push_size _ rfl, rfl, rfl⟩, fun b hb => ?_, q⟩
    have e : b = s1.heap.objs.size := by simpa using hb
    subst e
    exact I1.fpOk (Nat.le_refl _) (I1.hok.fresh (Nat.le_refl _))
  · obtain ⟨t, rfl⟩ := r1
    cases ha : x.cps.all (· < 128)
    · exact wpAny_pyIter_wide ha (pi_one (tk := s1.toks) I1 _ (turn_str _ x t "str_iterator" (.inr rfl)) ⟨_, Heap.get?_push_size _ rfl, rfl, rfl⟩ q)
    · exact wpAny_pyIter_ascii ha (pi_one (tk := s1.toks) I1 _ (turn_str _ x t "str_ascii_iterator" (.inl rfl)) ⟨_, Heap.get?_push_size _ rfl, rfl, rfl⟩ q)
theorem walk_str {K : PySem.W.Frag} {G : Hp} {x : Str} : Walk K (Its x) G (x.cps.toList.map fun c => .str ⟨#[c]⟩) := by
  have key : ∀ (i : Nat) (d : D), (x.cps.toList.map fun c => (PyData.str ⟨#[c]⟩))[i]? = some d → ∃ c, x.cps[i]? = some c ∧ d = .str ⟨#[c]⟩ := fun i d h => by
    rw [List.getElem?_map] at h
    cases e : x.cps.toList[i]? with
    | none => rw [e] at h; cases h
    | some c => rw [e] at h; cases h; exact ⟨c, by rw [← Array.getElem?_toList]; exact e, rfl⟩
  refine ⟨fun i d G2 H2 hd e1 e2 => ?_, fun i d y G2 H2 H3 hd e1 e2 hy => ?_, fun G2 H2 e1 e2 => by show x.cps.size ≤ _; rw [List.length_map, Array.length_toList]; exact Nat.le_refl _⟩
  · obtain ⟨c, hc, _⟩ := key i d hd
    exact (Array.getElem?_eq_some_iff.mp hc).1
  · obtain ⟨rfl, c, hc, rfl⟩ := hy
    obtain ⟨c', hc', rfl⟩ := key i d hd
    rw [hc] at hc'
    cases hc'
    exact ⟨G2, .refl e2, .str _⟩
theorem i_seq {f : EnvS → R D} (h : PD X W e f) : PID X W tg e (seqF f) := (pi_seq h).wk fun σ H Q ⟨G, ρ, hs, he, q⟩ => by
  unfold seqF at q
  refine seqP PostI.fin q hs he fun a v G1 H1 _ e1 r1 he1 q1 => ?_
  cases a with
  | list ds =>
    obtain ⟨a, xs, rfl, h1, g1, p1⟩ := r1.seqL e1.sub
    exact .inl ⟨a, rfl, ⟨xs, SqL.of h1⟩, q1 _ G1 H1 (.refl e1.sub) (walk_list g1 p1)⟩
  | tuple ds =>
    obtain ⟨a, xs, rfl, h1, g1, p1⟩ := r1.seqT e1.sub
    exact .inr (.inl ⟨a, rfl, ⟨xs, h1⟩, q1 _ G1 H1 (.refl e1.sub) (walk_tup g1 p1)⟩)
  | str x =>
    cases r1
    dsimp only at q1
    split at q1
    · exact .inr (.inr ⟨x, rfl, q1 _ G1 H1 (.refl e1.sub) walk_str⟩)
    · exact q1.elim
  | _ => exact q1.elim
theorem j_lst {f : EnvS → R (List D)} (h : PDL X W e f) : PJD X W tg e f := (pi_list h).wk fun σ H Q ⟨G, ρ, hs, he, q⟩ => by
  refine ⟨G, ρ, hs, he, ?_⟩
  cases ef : f ρ with
  | ok ds =>
    rw [ef] at q
    exact fun a xs G1 H1 e1 h1 r1 => ⟨a, rfl, ⟨xs, SqL.of h1⟩, q _ G1 H1 e1 (walkH_list h1 r1)⟩
  | ex x => rw [ef] at q; exact q
  | no => rw [ef] at q; exact q
def rngOk (i : Int) : Bool := decide (-(2 ^ 62) ≤ i) && decide (i < 2 ^ 62)
def rng1F (f : EnvS → R D) : EnvS → R (List D) := fun ρ => (f ρ).bind fun d => match d with
  | .int i => if rngOk i then .ok (rngD 0 i.toNat) else .no
  | _ => .no
def rng2F (f g : EnvS → R D) : EnvS → R (List D) := fun ρ => (f ρ).bind fun d => (g ρ).bind fun d' => match d, d' with
  | .int i, .int j => if rngOk i && rngOk j then .ok (rngD i (j - i).toNat) else .no
  | _, _ => .no
theorem i_rng1 {a : Expr} {p : Pos} {f : EnvS → R D} (hm : X.mg "range" = none) (ha : PD X W a f) (hg : Gl X "range" := by rfl) (hs : starEach [a] X.env = (false, eval a X.env) :: starEach [] X.env := by rfl) : PID X W tg (.Call (.Name "range" p) [a] [] pos) (rng1F f) :=
  (pi_range1 hg hm (pa_cons ha pa_nil hs) hs).wk fun σ H Q ⟨G, ρ, hs, he, q⟩ => by
    unfold rng1F at q
    refine seqP PostI.fin q hs he fun a v G1 H1 _ e1 r1 he1 q1 => ?_
    cases a with
    | int i =>
      cases r1
      dsimp only at q1
      split at q1
      · rename_i h
        unfold rngOk at h
        rw [Bool.and_eq_true] at h
        exact ⟨i, rfl, of_decide_eq_true h.1, of_decide_eq_true h.2, q1 _ G1 H1 (.refl e1.sub) walk_rng⟩
      · exact q1.elim
    | _ => exact q1.elim
theorem i_rng2 {a b : Expr} {p : Pos} {f g : EnvS → R D} (hm : X.mg "range" = none) (ha : PD X W a f) (hb : PD X W b g) (hg : Gl X "range" := by rfl) (hs : starEach [a, b] X.env = [(false, eval a X.env), (false, eval b X.env)] := by rfl) (hs2 : starEach [b] X.env = [(false, eval b X.env)] := by rfl)
    (hs3 : starEach [a, b] X.env = (false, eval a X.env) :: starEach [b] X.env := by rfl) (hs4 : starEach [b] X.env = (false, eval b X.env) :: starEach [] X.env := by rfl) : PID X W tg (.Call (.Name "range" p) [a, b] [] pos) (rng2F f g) :=
  (pi_range2 hg hm (pa_cons ha (pa_cons hb pa_nil hs4) hs3) hs hs2).wk fun σ H Q ⟨G, ρ, hs, he, q⟩ => by
    unfold rng2F at q
    refine seqP PostI.fin q hs he fun a v G1 H1 _ e1 r1 he1 q1 => ?_
    refine seqP PostI.fin q1 e1.sub he1 fun b u G2 H2 _ e2 r2 he2 q2 => ?_
    cases a with
    | int i =>
      cases b with
      | int j =>
        cases r1; cases r2
        dsimp only at q2
        split at q2
        · rename_i h
          unfold rngOk at h
          simp only [Bool.and_eq_true, decide_eq_true_eq] at h
          exact ⟨i, j, rfl, ⟨h.1.1, h.1.2, h.2.1, h.2.2⟩, q2 _ G2 H2 (.refl e2.sub) walk_rng⟩
        · exact q2.elim
      | _ => exact q2.elim
    | _ => exact q2.elim
def enuF (f : EnvS → R D) : EnvS → R (List D) := fun ρ => (f ρ).bind fun d => match d with
  | .list ds => .ok (enumFrom 0 ds)
  | _ => .no
theorem i_enum {a : Expr} {p tpos : Pos} {elts : List Expr} {kk : Nat} {f : EnvS → R D} (hm : X.mg "enumerate" = none) (ha : PD X W a f) (hg : Gl X "enumerate" := by rfl) (hs : starEach [a] X.env = (false, eval a X.env) :: starEach [] X.env := by rfl) : PID X W (.Tuple elts kk tpos) (.Call (.Name "enumerate" p) [a] [] pos) (enuF f) :=
  (pi_enum hg hm (pa_cons ha pa_nil hs) hs).wk fun σ H Q ⟨G, ρ, hs, he, q⟩ => by
    unfold enuF at q
    refine seqP PostI.fin q hs he fun a v G1 H1 _ e1 r1 he1 q1 => ?_
    cases a with
    | list ds =>
      obtain ⟨a, xs, rfl, h1, g1, p1⟩ := r1.seqL e1.sub
      exact ⟨a, xs, rfl, SqL.of h1, q1 _ G1 H1 (.refl e1.sub) (walk_enum g1 p1)⟩
    | _ => exact q1.elim
def zipF (f g : EnvS → R D) : EnvS → R (List D) := fun ρ => (f ρ).bind fun d => (g ρ).bind fun d' => match d, d' with
  | .list ds, .list es => .ok (zipD ds es)
  | .tuple ds, .tuple es => .ok (zipD ds es)
  | _, _ => .no
theorem i_zip {a b : Expr} {p tpos : Pos} {elts : List Expr} {kk : Nat} {f g : EnvS → R D} (hm : X.mg "zip" = none) (ha : PD X W a f) (hb : PD X W b g) (hg : Gl X "zip" := by rfl)
    (hs3 : starEach [a, b] X.env = (false, eval a X.env) :: starEach [b] X.env := by rfl) (hs4 : starEach [b] X.env = (false, eval b X.env) :: starEach [] X.env := by rfl) (hpl : (backTo pos (starEach [b] X.env)).any (·.1) = false := by rfl) : PID X W (.Tuple elts kk tpos) (.Call (.Name "zip" p) [a, b] [] pos) (zipF f g) :=
  (RZ.pi_zipA hg hm (pa_cons ha (pa_cons hb pa_nil hs4) hs3) hs3 hpl).wk fun σ H Q ⟨G, ρ, hs, he, q⟩ => by
    unfold zipF at q
    refine seqP PostI.fin q hs he fun a v G1 H1 _ e1 r1 he1 q1 => ?_
    refine seqP PostI.fin q1 e1.sub he1 fun b u G2 H2 _ e2 r2 he2 q2 => ?_
    have r1 := Rp.up r1 e2.gg
    cases a with
    | list ds =>
      cases b with
      | list es =>
        obtain ⟨a, xs, rfl, h1, g1, p1⟩ := r1.seqL e2.sub
        obtain ⟨b, ys, rfl, h2, g2, p2⟩ := r2.seqL e2.sub
        exact ⟨a, b, xs, ys, rfl, .inl ⟨SqL.of h1, SqL.of h2, q2 _ G2 H2 (.refl e2.sub) (walk_zip g1 g2 p1 p2)⟩⟩
      | _ => exact q2.elim
    | tuple ds =>
      cases b with
      | tuple es =>
        obtain ⟨a, xs, rfl, h1, g1, p1⟩ := r1.seqT e2.sub
        obtain ⟨b, ys, rfl, h2, g2, p2⟩ := r2.seqT e2.sub
        exact ⟨a, b, xs, ys, rfl, .inr ⟨h1, h2, q2 _ G2 H2 (.refl e2.sub) (walk_zipT g1 g2 p1 p2)⟩⟩
      | _ => exact q2.elim
    | _ => exact q2.elim
end
end TD

/-! TdDef: for, while, comprehensions; calls of defs, raise; the rule for a def. -/
namespace TD
open PySem PySem.Spec PyProof.Rows L2
/-! ### for -/
def forO (h : D → EnvS → R EnvS) (gb : EnvS → Out) : List D → EnvS → Out
  | [], ρ => .nx ρ
  | d :: ds, ρ => match h d ρ with
    | .ok ρ1 => match gb ρ1 with
      | .nx ρ2 => forO h gb ds ρ2
      | .ct ρ2 => forO h gb ds ρ2
      | .bk ρ2 => .nx ρ2
      | .rt d => .rt d
      | .ex x ρ2 => .ex x ρ2
      | .no => .no
    | _ => .no
def loO (f : EnvS → R (List D)) (h : D → EnvS → R EnvS) (gb : EnvS → Out) : EnvS → Out := fun ρ => (f ρ).out ρ fun ds => forO h gb ds ρ
section
variable {X : Cx} {W : WX} {wr wr1 wr2 : List Nat} {pos : Pos}
theorem s_for {tg it : Expr} {body : List Stmt} {f : EnvS → R (List D)} {h : D → EnvS → R EnvS} {gb : EnvS → Out} (hp : PassesOwn (model X.prog X.w) X.A X.env X.xe) (hi : PID X W tg it f) (hg : PGD X wr1 tg h) (hb : PSsD X W wr2 body gb) (hc : X.calm = true := by rfl)
    (hs : ∀ x, foldedSetIterable it X.env x = pure x := by intro _; rfl) : PSD X W (wr1 ++ wr2) (.For tg it body [] pos) (loO f h gb) := (ps_for hp hc hi hg hb hs).wk fun Dd σ H ⟨G0, H0, G, ρ, ok, q⟩ => by
  unfold loO at q
  refine ⟨G, ρ, ok.ext.sub, ok.env, ?_⟩
  cases ef : f ρ with
  | ex x =>
    rw [ef] at q
    exact fun G1 H1 e1 cc m => q cc σ G1 H1 m (ok.step e1) e1.gg .refl
  | no => rw [ef] at q; exact q.elim
  | ok ds =>
    rw [ef] at q
    intro J G1 H1 e1 w
    have q : PostS X.K X.mg W G0 H0 (wr1 ++ wr2) σ ρ G1 (forO h gb ds ρ) Dd := PostS.later q (fun _ h => h) e1.gg .refl
    let Wv : Nat → L2.St → Hp → Prop := fun i σ' H' => ∃ G' ρ', StOk X.K G0 H0 G' H' σ' ρ' ∧ Same G1 G' ∧ Fr (wr1 ++ wr2) σ ρ σ' ρ' ∧ PostS X.K X.mg W G0 H0 (wr1 ++ wr2) σ' ρ' G' (forO h gb (ds.drop i) ρ') Dd
    refine ⟨fun i m σ' H' => m = ds.length - i ∧ i ≤ ds.length ∧ Wv i σ' H', ⟨ds.length, by omega, Nat.zero_le _, G1, ρ, ok.step e1, .refl _, .refl, q⟩, ?_⟩
    rintro i m σ' H' ⟨rfl, hi, G', ρ', ok', s', fr', q'⟩
    by_cases hlt : i < ds.length
    · have hd : ds[i]? = some ds[i] := List.getElem?_eq_getElem hlt
      refine .inr ⟨w.go i _ G' H' hd s' ok'.ext.sub, Wv (i + 1), fun σ2 H2 p2 => ⟨ds.length - (i + 1), by omega, rfl, hlt, p2⟩, fun x H3 hy => ?_⟩
      obtain ⟨G3, e3, r3⟩ := w.yld i _ x G' H' H3 hd s' ok'.ext.sub hy
      have hdr : ds.drop i = ds[i] :: ds.drop (i + 1) := List.drop_eq_getElem_cons hlt
      rw [hdr] at q'
      unfold forO at q'
      cases eh : h ds[i] ρ' with
      | ex x => rw [eh] at q'; exact q'.elim
      | no => rw [eh] at q'; exact q'.elim
      | ok ρ1 =>
        rw [eh] at q'
        dsimp only at q'
        have ok3 := ok'.step e3
        refine ⟨G3, ρ', ds[i], e3.sub, ok3.len, ok3.env, r3, ρ1, eh, fun σ1 p1 => ?_⟩
        refine ⟨G0, H0, G3, ρ1, ok3.puts p1, ?_⟩
        have f1 : Fr (wr1 ++ wr2) σ' ρ' σ1 ρ1 := p1.fr.mono fun i h => List.mem_append_left _ h
        have m2 : ∀ {σ2 ρ2}, Fr wr2 σ1 ρ1 σ2 ρ2 → Fr (wr1 ++ wr2) σ' ρ' σ2 ρ2 := fun h => f1.trans (h.mono fun i h => List.mem_append_right _ h)
        cases eg : gb ρ1 with
        | nx ρ2 =>
          rw [eg] at q'
          exact fun σ2 G2 H2 o2 s2 f2 => ⟨G2, ρ2, o2, (s'.trans e3.gg).trans s2, fr'.trans (m2 f2), PostS.later q' (fun _ h => h) (e3.gg.trans s2) (m2 f2)⟩
        | ct ρ2 =>
          rw [eg] at q'
          exact fun σ2 G2 H2 o2 s2 f2 => ⟨G2, ρ2, o2, (s'.trans e3.gg).trans s2, fr'.trans (m2 f2), PostS.later q' (fun _ h => h) (e3.gg.trans s2) (m2 f2)⟩
        | bk ρ2 =>
          rw [eg] at q'
          exact fun σ2 G2 H2 o2 s2 f2 => q' σ2 G2 H2 o2 (e3.gg.trans s2) (m2 f2)
        | rt d => rw [eg] at q'; exact q'
        | ex x ρ2 =>
          rw [eg] at q'
          exact fun cc σ2 G2 H2 mm o2 s2 f2 => q' cc σ2 G2 H2 mm o2 (e3.gg.trans s2) (m2 f2)
        | no => rw [eg] at q'; exact q'
    · have e : i = ds.length := by omega
      subst e
      rw [List.drop_length] at q'
      exact .inl ⟨w.stop G' H' s' ok'.ext.sub, q' σ' G' H' ok' (.refl _) .refl⟩
/-- over one's own list, which the body leaves as it is -/
theorem s_forOwn (k : Nat) {tg : Expr} {x : Str} {p : Pos} {body : List Stmt} {h : D → EnvS → R EnvS} {gb : EnvS → Out} (hp : PassesOwn (model X.prog X.w) X.A X.env X.xe) (hg : PGD X wr1 tg h) (hb : PSsD X W wr2 body gb) (hk : k ∉ wr1 ++ wr2 := by decide) (hc : X.calm = true := by rfl)
    (hN : X.N[k]? = some x := by rfl) (hv : Vis X.env.scope x := by first | exact Or.inl rfl | exact Or.inr (Or.inl rfl) | exact Or.inr (Or.inr rfl)) (hd : (x == ("__debug__" : Str)) = false := by decide)
    (hcd : (x == ("__classdict__" : Str)) = false := by decide)
    (hs : ∀ v, foldedSetIterable (.Name x p) X.env v = pure v := by intro _; rfl) : PSD X W (wr1 ++ wr2) (.For tg (.Name x p) body [] pos) (loO (ownD k) h gb) := (ps_for hp hc (pi_list (pe_var hN hv hd hcd)) hg hb hs).wk fun Dd σ H ⟨G0, H0, G, ρ, ok, q⟩ => by
  unfold loO ownD at q
  cases e : ρ[k]? with
  | none => simp only [e] at q; exact q.elim
  | some o =>
    cases o with
    | none => simp only [e] at q; exact q.elim
    | some d =>
      cases d with
      | pu d => simp only [e] at q; exact q.elim
      | ow ds =>
        simp only [e] at q
        have q : PostS X.K X.mg W G0 H0 (wr1 ++ wr2) σ ρ G (forO h gb ds ρ) Dd := q
        obtain ⟨a, xs, hsk, ha, na, ra⟩ := ok.env.ow k ds e
        refine ⟨_, hsk, a, rfl, ⟨xs, SqL.of ha⟩, ?_⟩
        let Wv : Nat → L2.St → Hp → Prop := fun i σ' H' => ∃ G' ρ', StOk X.K G0 H0 G' H' σ' ρ' ∧ Same G G' ∧ Fr (wr1 ++ wr2) σ ρ σ' ρ' ∧ PostS X.K X.mg W G0 H0 (wr1 ++ wr2) σ' ρ' G' (forO h gb (ds.drop i) ρ') Dd
        refine ⟨fun i m σ' H' => m = ds.length - i ∧ i ≤ ds.length ∧ Wv i σ' H', ⟨ds.length, by omega, Nat.zero_le _, G, ρ, ok, .refl _, .refl, q⟩, ?_⟩
        rintro i m σ' H' ⟨rfl, hi, G', ρ', ok', s', fr', q'⟩
        have ek : ρ'[k]? = some (some (.ow ds)) := (fr' k hk).2.trans e
        obtain ⟨a', ys, hsk', ha', na', ra'⟩ := ok'.env.ow k ds ek
        have ea : a' = a := by
          have := (fr' k hk).1.trans hsk
          rw [hsk'] at this
          cases this
          rfl
        subst ea
        by_cases hlt : i < ds.length
        · have hd : ds[i]? = some ds[i] := List.getElem?_eq_getElem hlt
          obtain ⟨v, hv, rv⟩ := ra'.get hd
          refine .inr ⟨⟨ys, v, SqL.of ha', hv⟩, Wv (i + 1), fun σ2 H2 p2 => ⟨ds.length - (i + 1), by omega, rfl, hlt, p2⟩, fun x H3 hy => ?_⟩
          obtain ⟨rfl, hx⟩ := hy
          have hx := hx ys (SqL.of ha')
          rw [hv] at hx
          cases hx
          have hdr : ds.drop i = ds[i] :: ds.drop (i + 1) := List.drop_eq_getElem_cons hlt
          rw [hdr] at q'
          unfold forO at q'
          cases eh : h ds[i] ρ' with
          | ex x => rw [eh] at q'; exact q'.elim
          | no => rw [eh] at q'; exact q'.elim
          | ok ρ1 =>
            rw [eh] at q'
            dsimp only at q'
            refine ⟨G', ρ', ds[i], ok'.ext.sub, ok'.len, ok'.env, rv, ρ1, eh, fun σ1 p1 => ?_⟩
            refine ⟨G0, H0, G', ρ1, ok'.puts p1, ?_⟩
            have f1 : Fr (wr1 ++ wr2) σ' ρ' σ1 ρ1 := p1.fr.mono fun i h => List.mem_append_left _ h
            have m2 : ∀ {σ2 ρ2}, Fr wr2 σ1 ρ1 σ2 ρ2 → Fr (wr1 ++ wr2) σ' ρ' σ2 ρ2 := fun h => f1.trans (h.mono fun i h => List.mem_append_right _ h)
            cases eg : gb ρ1 with
            | nx ρ2 =>
              rw [eg] at q'
              exact fun σ2 G2 H2 o2 s2 f2 => ⟨G2, ρ2, o2, s'.trans s2, fr'.trans (m2 f2), PostS.later q' (fun _ h => h) s2 (m2 f2)⟩
            | ct ρ2 =>
              rw [eg] at q'
              exact fun σ2 G2 H2 o2 s2 f2 => ⟨G2, ρ2, o2, s'.trans s2, fr'.trans (m2 f2), PostS.later q' (fun _ h => h) s2 (m2 f2)⟩
            | bk ρ2 =>
              rw [eg] at q'
              exact fun σ2 G2 H2 o2 s2 f2 => q' σ2 G2 H2 o2 s2 (m2 f2)
            | rt d => rw [eg] at q'; exact q'
            | ex x ρ2 =>
              rw [eg] at q'
              exact fun cc σ2 G2 H2 mm o2 s2 f2 => q' cc σ2 G2 H2 mm o2 s2 (m2 f2)
            | no => rw [eg] at q'; exact q'
        · have ei : i = ds.length := by omega
          subst ei
          rw [List.drop_length] at q'
          exact .inl ⟨⟨ys, SqL.of ha', by rw [ra'.length]; exact Nat.le_refl _⟩, q' σ' G' H' ok' (.refl _) .refl⟩
end
/-! ### while -/
def whO (c : EnvS → R Bool) (gb : EnvS → Out) : Nat → EnvS → Out
  | 0, _ => .no
  | n + 1, ρ => (c ρ).out ρ fun b => if b = true then (match gb ρ with
      | .nx ρ2 => whO c gb n ρ2
      | .ct ρ2 => whO c gb n ρ2
      | .bk ρ2 => .nx ρ2
      | .rt d => .rt d
      | .ex x ρ2 => .ex x ρ2
      | .no => .no) else .nx ρ
theorem whO_more (c : EnvS → R Bool) (gb : EnvS → Out) : ∀ (n : Nat) (ρ : EnvS), whO c gb n ρ ≠ .no → whO c gb (n + 1) ρ = whO c gb n ρ
  | 0, ρ, h => absurd rfl h
  | n + 1, ρ, h => by
    have step : ∀ m, whO c gb (m + 1) ρ = (c ρ).out ρ fun b => if b = true then (match gb ρ with
      | .nx ρ2 => whO c gb m ρ2
      | .ct ρ2 => whO c gb m ρ2
      | .bk ρ2 => .nx ρ2
      | .rt d => .rt d
      | .ex x ρ2 => .ex x ρ2
      | .no => .no) else .nx ρ := fun m => rfl
    rw [step n] at h
    rw [step (n + 1), step n]
    cases e : c ρ with
    | ok b =>
      rw [e] at h
      cases b with
      | true =>
        simp only [R.out, if_true] at h ⊢
        cases eg : gb ρ with
        | nx ρ2 => rw [eg] at h; exact whO_more c gb n ρ2 h
        | ct ρ2 => rw [eg] at h; exact whO_more c gb n ρ2 h
        | _ => rfl
      | false => rfl
    | ex x => rfl
    | no => rfl
theorem whO_plus {c : EnvS → R Bool} {gb : EnvS → Out} {n : Nat} {ρ : EnvS} (h : whO c gb n ρ ≠ .no) : ∀ k, whO c gb (n + k) ρ = whO c gb n ρ
  | 0 => rfl
  | k + 1 => by
    have := whO_plus h k
    rw [← Nat.add_assoc, whO_more c gb (n + k) ρ (by rw [this]; exact h), this]
noncomputable def whX (c : EnvS → R Bool) (gb : EnvS → Out) : EnvS → Out := fun ρ =>
  open Classical in if h : ∃ n, whO c gb n ρ ≠ .no then whO c gb (Classical.choose h) ρ else .no
theorem whX_eq {c : EnvS → R Bool} {gb : EnvS → Out} {ρ : EnvS} {o : Out} (n : Nat) (h : whO c gb n ρ = o) (ho : o ≠ .no) : whX c gb ρ = o := by
  have ex : ∃ n, whO c gb n ρ ≠ .no := ⟨n, by rw [h]; exact ho⟩
  unfold whX
  rw [dif_pos ex]
  have hc := Classical.choose_spec ex
  have hn : whO c gb n ρ ≠ .no := by rw [h]; exact ho
  have e1 := whO_plus hc n
  have e2 := whO_plus hn (Classical.choose ex)
  rw [Nat.add_comm] at e1
  rw [← e1, e2, h]
section
variable {X : Cx} {W : WX} {wr : List Nat} {pos : Pos}
theorem s_while {c : Expr} {body : List Stmt} {t : EnvS → R Bool} {gb : EnvS → Out} (hp : PassesOwn (model X.prog X.w) X.A X.env X.xe) (hc : PTD X W c t) (hb : PSsD X W wr body gb) : PSD X W wr (.While c body [] pos) (whX t gb) := (ps_while hp hc hb).wk fun Dd σ H ⟨G0, H0, G, ρ, ok, q⟩ => by
  unfold whX at q
  split at q
  · rename_i ex
    generalize Classical.choose ex = n at q
    refine ⟨fun m σ' H' => ∃ G' ρ', StOk X.K G0 H0 G' H' σ' ρ' ∧ Same G G' ∧ Fr wr σ ρ σ' ρ' ∧ PostS X.K X.mg W G0 H0 wr σ' ρ' G' (whO t gb m ρ') Dd, ⟨n, G, ρ, ok, .refl _, .refl, q⟩, ?_⟩
    rintro m σ' H' ⟨G', ρ', ok', s', fr', q'⟩
    cases m with
    | zero => exact q'.elim
    | succ m =>
      unfold whO at q'
      refine outE q' ok' fun b v G1 H1 _ e1 r1 ok1 q1 => ?_
      cases r1
      cases b with
      | true =>
        simp only [if_true] at q1
        refine ⟨fun σ2 H2 => ∃ G2 ρ2, StOk X.K G0 H0 G2 H2 σ2 ρ2 ∧ Same G G2 ∧ Fr wr σ ρ σ2 ρ2 ∧ PostS X.K X.mg W G0 H0 wr σ2 ρ2 G2 (whO t gb m ρ2) Dd, fun σ2 H2 p => ⟨m, Nat.lt_succ_self m, p⟩, ?_⟩
        refine ⟨G0, H0, G1, ρ', ok1, ?_⟩
        cases eg : gb ρ' with
        | nx ρ2 =>
          rw [eg] at q1
          exact fun σ2 G2 H2 o2 s2 f2 => ⟨G2, ρ2, o2, (s'.trans e1.gg).trans s2, fr'.trans f2, PostS.later q1 (fun _ h => h) s2 f2⟩
        | ct ρ2 =>
          rw [eg] at q1
          exact fun σ2 G2 H2 o2 s2 f2 => ⟨G2, ρ2, o2, (s'.trans e1.gg).trans s2, fr'.trans f2, PostS.later q1 (fun _ h => h) s2 f2⟩
        | bk ρ2 => rw [eg] at q1; exact fun σ2 G2 H2 o2 s2 f2 => q1 σ2 G2 H2 o2 s2 f2
        | rt d => rw [eg] at q1; exact q1
        | ex x ρ2 => rw [eg] at q1; exact fun cc σ2 G2 H2 mm o2 s2 f2 => q1 cc σ2 G2 H2 mm o2 s2 f2
        | no => rw [eg] at q1; exact q1
      | false => exact q1 σ' G1 H1 ok1 (.refl _) .refl
  · exact q.elim
end
/-! ### comprehensions -/
def wipeS (ρ : EnvS) : List Nat → EnvS
  | [] => ρ
  | v :: vs => (wipeS ρ vs).set v none
def compO (h : D → EnvS → R EnvS) (t : EnvS → R Bool) (fe : EnvS → R D) : List D → EnvS → R (List D)
  | [], _ => .ok []
  | d :: ds, ρ => match h d ρ with
    | .ok ρ1 => match t ρ1 with
      | .ok true => match fe ρ1 with
        | .ok y => match compO h t fe ds ρ with
          | .ok ys => .ok (y :: ys)
          | _ => .no
        | _ => .no
      | .ok false => compO h t fe ds ρ
      | _ => .no
    | _ => .no
def lcF (f : EnvS → R (List D)) (h : D → EnvS → R EnvS) (t : EnvS → R Bool) (fe : EnvS → R D) (vs : List Nat) : EnvS → R (List D) := fun ρ => (f ρ).bind fun ds => if lineOk ds.length then compO h t fe ds (wipeS ρ vs) else .no
abbrev W0 : WX := fun _ _ _ _ => False
theorem wipe_env {K : PySem.W.Frag} {G H : Hp} {σ : L2.St} {ρ : EnvS} (he : EnvE K G H σ ρ) : ∀ vs : List Nat, EnvE K G H (wipe σ vs) (wipeS ρ vs)
  | [] => he
  | v :: vs => by
    have ih := wipe_env he vs
    unfold wipe wipeS
    refine ⟨fun i d h => ?_, fun i ds h => ?_, by rw [List.length_set, List.length_set]; exact ih.len⟩
    · rcases get_set h with ⟨_, e, _⟩ | ⟨hj, h⟩
      · cases e
      · rw [List.getElem?_set_ne (Ne.symm hj)]; exact ih.pu i d h
    · rcases get_set h with ⟨_, e, _⟩ | ⟨hj, h⟩
      · cases e
      · rw [List.getElem?_set_ne (Ne.symm hj)]; exact ih.ow i ds h
theorem wipe_get {σ : L2.St} {i : Nat} : ∀ {vs : List Nat}, i ∉ vs → (wipe σ vs)[i]? = σ[i]?
  | [], _ => rfl
  | v :: vs, h => by
    have h1 : i ≠ v := fun e => h (by rw [e]; exact List.mem_cons_self)
    have h2 : i ∉ vs := fun e => h (List.mem_cons_of_mem _ e)
    unfold wipe
    rw [List.getElem?_set_ne (Ne.symm h1), wipe_get h2]
theorem wipe_in {σ : L2.St} {i : Nat} : ∀ {vs : List Nat}, i ∈ vs → i < σ.length → (wipe σ vs)[i]? = some none
  | v :: vs, h, hl => by
    unfold wipe
    by_cases e : v = i
    · subst e
      exact List.getElem?_set_self (by rw [wipe_length]; exact hl)
    · rw [List.getElem?_set_ne e]
      refine wipe_in ?_ hl
      rcases List.mem_cons.mp h with z | z
      · exact absurd z.symm e
      · exact z
theorem wipe_wipe {σ σ2 : L2.St} {vs : List Nat} (hl : σ2.length = σ.length) (h : ∀ i, i ∉ vs → σ2[i]? = (wipe σ vs)[i]?) : wipe σ2 vs = wipe σ vs := by
  apply List.ext_getElem?
  intro i
  by_cases hi : i ∈ vs
  · by_cases hlt : i < σ.length
    · rw [wipe_in hi hlt, wipe_in hi (by rw [hl]; exact hlt)]
    · rw [List.getElem?_eq_none (by rw [wipe_length]; omega), List.getElem?_eq_none (by rw [wipe_length]; omega)]
  · rw [wipe_get hi, h i hi]
theorem tLc_of {X : Cx} {W : WX} {f : EnvS → R (List D)} {wr vs : List Nat} {h : D → EnvS → R EnvS} {t : EnvS → R Bool} {fe : EnvS → R D} (hwr : ∀ i, i ∈ wr → i ∈ vs) {σ : L2.St} {H : Hp} {Q : VK}
    (q : tN X.K X.mg W (lcF f h t fe vs) σ H Q) : tLc (tJ X.K X.mg W f) (tG X.K wr h) (tD X.K X.mg W0 rpB t) (tD X.K X.mg W0 (rpE X.K) fe) vs σ H Q := by
  obtain ⟨G, ρ, hs, he, q⟩ := q
  unfold lcF at q
  refine ⟨G, ρ, hs, he, ?_⟩
  cases ef : f ρ with
  | ex x => rw [ef] at q; exact q
  | no => rw [ef] at q; exact q
  | ok ds =>
    rw [ef] at q
    dsimp only [R.bind] at q
    split at q
    · rename_i hline
      intro J G1 H1 e1 w L hL
      have he1 := he.up e1
      have q := PostN.fin.later _ _ _ _ _ q e1
      have nG1 : G1 L = none := e1.sub.free hL
      cases ec : compO h t fe ds (wipeS ρ vs) with
      | ex x => 
        exact absurd ec (by
          have : ∀ ds : List D, compO h t fe ds (wipeS ρ vs) ≠ .ex x := by
            intro ds
            induction ds with
            | nil => intro z; cases z
            | cons d r ih =>
              unfold compO
              intro z
              split at z
              · split at z
                · split at z
                  · split at z <;> cases z
                  · cases z
                · exact ih z
                · cases z
              · cases z
          exact this ds)
      | no => rw [ec] at q; exact q.elim
      | ok all =>
        rw [ec] at q
        have q : ∀ q' xs G' H', Ext G1 H1 G' H' → H1 q' = none → G' q' = none → H' q' = some (.lst xs) → RpAll X.K G' xs all → Q (.ref q') H' := q
        let Wv : Nat → Hp → Prop := fun i H' => ∃ G' acc as rest, Ext G1 H1 G' H' ∧ G' L = none ∧ H' L = some (.lst acc) ∧ RpAll X.K G' acc as ∧ acc.length ≤ i ∧ compO h t fe (ds.drop i) (wipeS ρ vs) = .ok rest ∧ all = as ++ rest
        refine ⟨fun i m H' => m = ds.length - i ∧ i ≤ ds.length ∧ Wv i H', ⟨ds.length, by omega, Nat.zero_le _, G1, [], [], all, Ext.newH e1.sub hL, nG1, upd_same, .nil, Nat.le_refl _, ec, rfl⟩, ?_⟩
        rintro i m H' ⟨rfl, hi, G', acc, as, rest, e', nG', hL', ra, hacc, ec', eall⟩
        by_cases hlt : i < ds.length
        · have hd : ds[i]? = some ds[i] := List.getElem?_eq_getElem hlt
          refine .inr ⟨w.go i _ G' H' hd e', Wv (i + 1), fun H2 p2 => ⟨ds.length - (i + 1), by omega, rfl, hlt, p2⟩, fun x H3 hy => ?_⟩
          obtain ⟨G3, e3, r3⟩ := w.yld i _ x G' H' H3 hd e' hy
          have hdr : ds.drop i = ds[i] :: ds.drop (i + 1) := List.drop_eq_getElem_cons hlt
          rw [hdr] at ec'
          unfold compO at ec'
          have e13 := e'.trans e3
          have env3 := wipe_env (he1.up e13) vs
          have nL : ∀ {Ga Ha Gb Hb : Hp}, Ext Ga Ha Gb Hb → Ga L = none → Ha L = some (.lst acc) → Gb L = none ∧ Hb L = some (.lst acc) := fun {Ga Ha Gb Hb} ee z1 z2 => by
            refine ⟨?_, ee.hh _ _ z2⟩
            by_cases z : Gb L = none
            · exact z
            · rw [ee.fr L z1 z] at z2; cases z2
          obtain ⟨n3, h3⟩ := nL e3 nG' hL'
          cases eh : h ds[i] (wipeS ρ vs) with
          | ex x => rw [eh] at ec'; cases ec'
          | no => rw [eh] at ec'; cases ec'
          | ok ρ1 =>
            rw [eh] at ec'
            dsimp only at ec'
            refine ⟨G3, wipeS ρ vs, ds[i], e3.sub, env3.len, env3, r3, ρ1, eh, fun σ1 p1 => ⟨wipe_wipe (by rw [p1.len', wipe_length]) fun j hj => (p1.fr j fun z => hj (hwr j z)).1, ?_⟩⟩
            cases et : t ρ1 with
            | ex x => rw [et] at ec'; cases ec'
            | no => rw [et] at ec'; cases ec'
            | ok b =>
              rw [et] at ec'
              refine ⟨G3, ρ1, e3.sub, p1.env, ?_⟩
              rw [et]
              intro v G4 H4 e4 rv
              cases rv
              obtain ⟨n4, h4⟩ := nL e4 n3 h3
              cases b with
              | true =>
                dsimp only at ec'
                rw [if_pos rfl]
                refine ⟨G4, ρ1, e4.sub, p1.env.up e4, ?_⟩
                cases ee : fe ρ1 with
                | ex x => rw [ee] at ec'; cases ec'
                | no => rw [ee] at ec'; cases ec'
                | ok y =>
                  rw [ee] at ec'
                  intro v G5 H5 e5 r5
                  obtain ⟨n5, h5⟩ := nL e5 n4 h4
                  have e15 := (e13.trans e4).trans e5
                  cases er : compO h t fe (ds.drop (i + 1)) (wipeS ρ vs) with
                  | ex x => rw [er] at ec'; cases ec'
                  | no => rw [er] at ec'; cases ec'
                  | ok ys =>
                    rw [er] at ec'
                    cases ec'
                    refine ⟨acc, h5, Nat.lt_of_le_of_lt hacc (Nat.lt_of_lt_of_le hlt (lineOk_le hline)), G5, acc ++ [v], as ++ [y], ys, ⟨fun b o hb => ?_, fun b o hb => ?_, e15.gg, e15.fr⟩, n5, upd_same, (ra.up ((e3.gg.trans e4.gg).trans e5.gg)).append (.one r5), by rw [List.length_append, List.length_singleton]; omega, er, by rw [eall, List.append_assoc]; rfl⟩
                    · rw [upd_ne (ne_of_none hb n5)]; exact e15.sub _ _ hb
                    · rw [upd_ne (ne_of_none hb hL)]; exact e15.hh _ _ hb
              | false =>
                dsimp only at ec'
                rw [if_neg Bool.false_ne_true]
                exact ⟨G4, acc, as, rest, e13.trans e4, n4, h4, ra.up (e3.gg.trans e4.gg), by omega, ec', eall⟩
        · have ei : i = ds.length := by omega
          subst ei
          rw [List.drop_length] at ec'
          cases ec'
          rw [List.append_nil] at eall
          subst eall
          exact .inl ⟨w.stop G' H' e', q L acc G' H' e' hL nG' hL' ra⟩
    · exact q.elim
section
variable {X : Cx} {W : WX} {wr : List Nat} {pos : Pos}
theorem n_lc {elt tg it : Expr} {ifs : List Expr} {scope : Scope} {own : List (Str × Nat)} {vs : List Nat} {f : EnvS → R (List D)} {h : D → EnvS → R EnvS} {t : EnvS → R Bool} {fe : EnvS → R D} (hN : X.N.Nodup) (hi : PJD X W tg it f) (ok : BlkOk X.N X.env.scope scope own)
    (hg : ∀ (s : Shared) (H : Hp) (C : Addr) (cl : List (Str × Addr)) (fp : List Addr), PGD (X.blk s H scope (compEnvC scope cl C X.env) fp) wr tg h) (ht : ∀ (s : Shared) (H : Hp) (C : Addr) (cl : List (Str × Addr)) (fp : List Addr), PTs (X.blk s H scope (compEnvC scope cl C X.env) fp) ifs (tD X.K X.mg W0 rpB t))
    (he : ∀ (s : Shared) (H : Hp) (C : Addr) (cl : List (Str × Addr)) (fp : List Addr), PD (X.blk s H scope (compEnvC scope cl C X.env) fp) W0 elt fe) (hvs : own.map (·.2) = vs := by rfl) (hwr : ∀ i, i ∈ wr → i ∈ vs := by decide) (hc : X.calm = true := by rfl) (hs : ∀ x, foldedSetIterable it X.env x = pure x := by intro _; rfl) :
    PDN X W (.ListComp elt [⟨tg, it, ifs, 0⟩] scope pos) (lcF f h t fe vs) := (pe_lc hc hN hi ok hg ht he hs).wk fun σ H Q q => by subst hvs; exact tLc_of hwr q
theorem p_lc {i : Nat} {y : Str} {py spos : Pos} {elt tg it : Expr} {ifs : List Expr} {scope : Scope} {own : List (Str × Nat)} {vs : List Nat} {f : EnvS → R (List D)} {h : D → EnvS → R EnvS} {t : EnvS → R Bool} {fe : EnvS → R D} (hN : X.N.Nodup) (hi : PJD X W tg it f) (ok : BlkOk X.N X.env.scope scope own)
    (hg : ∀ (s : Shared) (H : Hp) (C : Addr) (cl : List (Str × Addr)) (fp : List Addr), PGD (X.blk s H scope (compEnvC scope cl C X.env) fp) wr tg h) (ht : ∀ (s : Shared) (H : Hp) (C : Addr) (cl : List (Str × Addr)) (fp : List Addr), PTs (X.blk s H scope (compEnvC scope cl C X.env) fp) ifs (tD X.K X.mg W0 rpB t))
    (he : ∀ (s : Shared) (H : Hp) (C : Addr) (cl : List (Str × Addr)) (fp : List Addr), PD (X.blk s H scope (compEnvC scope cl C X.env) fp) W0 elt fe) (hvs : own.map (·.2) = vs := by rfl) (hwr : ∀ i, i ∈ wr → i ∈ vs := by decide) (hc : X.calm = true := by rfl) (hy : X.N[i]? = some y := by rfl) (hyl : X.env.scope.names.lookup y = some .local := by rfl)
    (hsw : swapsWith (.ListComp elt [⟨tg, it, ifs, 0⟩] scope pos) (some (.Name y py)) spos.line X.env = pure true := by exact sw_true rfl rfl rfl (by decide +kernel)) (hs : ∀ x, foldedSetIterable it X.env x = pure x := by intro _; rfl) :
    PS X (.Assign [.Name y py] (.ListComp elt [⟨tg, it, ifs, 0⟩] scope pos) spos) (tAsg (tN X.K X.mg W (lcF f h t fe vs)) (gName i)) := (ps_setLc hc hN hy hyl hsw hi ok hg ht he hs).wk fun Dd σ H q => by subst hvs; exact tLc_of hwr q
def yesB : EnvS → R Bool := fun _ => .ok true
theorem ts_nil : PTs X [] (tD X.K X.mg W0 rpB yesB) := ⟨fun pins s σ H Q I ⟨G, ρ, hs, he, q⟩ => pts_nil.run pins s σ H Q I (Post.done (rp := rpB) q hs rfl)⟩
theorem ts_one {c : Expr} {t : EnvS → R Bool} (h : PTD X W0 c t) : PTs X [c] (tD X.K X.mg W0 rpB t) := pts_one h

/-! ### defs -/
/-- the promise of a def that is a function of data -/
def spD (K : PySem.W.Frag) (mg : Str → Option Value) (n : Nat) (F : List D → R D) : Sp := fun vs H Q E => ∃ G ds, Same G H ∧ RpAll K G vs ds ∧ ds.length = n ∧ Post (rpE K) (fun x H' => ∀ c, mg x = some c → E c none H') G H (F ds) Q
/-- what the def at f is: a function of data -/
abbrev FnD (P : Program) (w : World) (K : PySem.W.Frag) (mg : Str → Option Value) (base : Heap) (k : Nat) (f : Addr) (fd : FuncData) (ps : List Str) (F : List D → R D) : Prop := FnOk P w K mg base (L2.CX P w) k f fd ps (spD K mg ps.length F)
def callU (n : Nat) (F : List D → R D) (g : EnvS → R (List D)) : EnvS → R D := fun ρ => (g ρ).bind fun as => if as.length = n then F as else .no
theorem d_call {k n : Nat} {f : Addr} {fd : FuncData} {ps : List Str} {F : List D → R D} {x : Str} {p : Pos} {e : Expr} {es : List Expr} {g : EnvS → R (List D)} (G : FnD X.prog X.w X.K X.mg X.base k f fd ps F) (hr : Room k X.A) (tk : Takes X W) (hm : X.mg x = some (.ref f)) (hk : PySem.W.keepIn X.K (.ref f) = true) (hb : Binds X.K fd ps [])
    (ha : PAD X W (e :: es) g) (hn : ps.length = n := by rfl) (hg : Gl X x := by rfl) (hdb : (x == ("__debug__" : Str)) = false := by decide) (he : starEach (e :: es) X.env = (false, eval e X.env) :: starEach es X.env := by rfl) (hpl : (backTo pos (starEach es X.env)).any (·.1) = false := by rfl) :
    PD X W (.Call (.Name x p) (e :: es) [] pos) (callU n F g) :=
  (pe_callS G hr hg hm hk hb (fun σ => passAt tk σ) ha hdb he hpl).wk fun σ H Q ⟨G, ρ, hs, he, q⟩ => by
    subst hn
    unfold callU at q
    refine Post.seq q hs he fun as vs G1 H1 _ e1 r1 he1 q1 => ?_
    split at q1
    · rename_i hl
      exact ⟨G1, as, e1.sub, r1, hl, q1⟩
    · exact q1.elim
/-- f() -/
theorem d_call0 {k : Nat} {f : Addr} {fd : FuncData} {F : List D → R D} {x : Str} {p : Pos} (G : FnD X.prog X.w X.K X.mg X.base k f fd [] F) (hr : Room k X.A) (tk : Takes X W) (hm : X.mg x = some (.ref f)) (hk : PySem.W.keepIn X.K (.ref f) = true) (hb : Binds X.K fd [] [])
    (hg : Gl X x := by rfl) (hdb : (x == ("__debug__" : Str)) = false := by decide) :
    PD X W (.Call (.Name x p) [] [] pos) (fun _ => F []) := by
  refine ⟨fun pins s σ H Q I ⟨G1, ρ, hs, he, q⟩ => ?_⟩
  refine wpAny_Call_Name_kw (ld_glob I hg hm ?_ hdb)
  exact PySem.W.callWith_K0 I.kIn hk (run_fnS (us := []) (E := WE W) G hr hb (passAt tk σ) I .nil ⟨G1, [], hs, .nil, rfl, q⟩)
def argS (n : Nat) (ds : List D) : EnvS := ds.map (fun d => some (.pu d)) ++ List.replicate (n - ds.length) none
def fnR (n : Nat) (g : EnvS → Out) (ds : List D) : R D := match g (argS n ds) with
  | .rt d => .ok d
  | .nx _ => .ok .none
  | .ex x _ => .ex x
  | _ => .no
end
section
variable {P : Program} {w : World} {K : PySem.W.Frag} {mg : Str → Option Value} {base : Heap}
theorem start_get {N : List Str} {vs : List V} {i : Nat} {v : V} (h : vs[i]? = some v) : (L2.start N vs)[i]? = some (some v) := by
  unfold L2.start
  have hl := (List.getElem?_eq_some_iff.mp h).1
  rw [List.getElem?_append_left (by simpa using hl), List.getElem?_map, h]
  rfl
theorem argS_get {n : Nat} {ds : List D} {i : Nat} {s : Sl} (h : (argS n ds)[i]? = some (some s)) : ∃ d, ds[i]? = some d ∧ s = .pu d := by
  unfold argS at h
  by_cases hl : i < ds.length
  · rw [List.getElem?_append_left (by simpa using hl), List.getElem?_map] at h
    cases e : ds[i]? with
    | none => rw [e] at h; cases h
    | some d => rw [e] at h; cases h; exact ⟨d, rfl, rfl⟩
  · rw [List.getElem?_append_right (by simp; omega), List.getElem?_replicate] at h
    split at h <;> cases h
theorem def_ok {x qual : Str} {st : Stmt} {f : Addr} {fd : FuncData} {N ps : List Str} {k : Nat} {wr : List Nat} {g : EnvS → Out} (F : Fun K x qual st f fd) (S : FnScope N ps (defScope st))
    (hb : ∀ (cdv : Value) (A : Around) (outer : List Env) (s : Shared) (H : Hp) (E : XK), Room k (A.deeper (envOfC qual (defScope st) s.heap.objs.size f cdv)) →
      Takes (cxOf (L2.CX P w) P w K mg base N qual (defScope st) f cdv A outer s H E) (fun c d _ H => E c d H) →
      PassesOwn (model P w) (A.deeper (envOfC qual (defScope st) s.heap.objs.size f cdv)) (envOfC qual (defScope st) s.heap.objs.size f cdv) (cxOf (L2.CX P w) P w K mg base N qual (defScope st) f cdv A outer s H E).xe →
      PSsD (cxOf (L2.CX P w) P w K mg base N qual (defScope st) f cdv A outer s H E) (fun c d _ H => E c d H) wr (defBody st) g) : FnD P w K mg base (k + 1) f fd ps (fnR N.length g) := by
  refine F.okX S (fun vs H Q E ⟨G, ds, hs, ra, hl, _⟩ => by rw [ra.length]; exact hl) fun cdv A outer s H vs Q E hr ⟨G, ds, hs, ra, hl, q⟩ => ⟨_, hb cdv A outer s H E hr (takes_of rfl rfl rfl rfl) (passes_of rfl), ?_⟩
  have hvl := ra.length
  refine ⟨G, H, G, argS N.length ds, ⟨.refl hs, ?_, ⟨fun i d h => ?_, fun i es h => ?_, ?_⟩, fun i es p h _ => ?_, fun i j es fs p _ h => ?_⟩, ?_⟩
  · unfold L2.start argS
    simp only [List.length_append, List.length_map, List.length_replicate]
    omega
  · obtain ⟨e, h1, h2⟩ := argS_get h
    cases h2
    obtain ⟨v, hv, rv⟩ := ra.get h1
    exact ⟨v, start_get hv, rv⟩
  · obtain ⟨e, h1, h2⟩ := argS_get h
    cases h2
  · unfold L2.start argS
    simp only [List.length_append, List.length_map, List.length_replicate]
    omega
  · obtain ⟨e, h1, h2⟩ := argS_get h
    cases h2
  · obtain ⟨e, h1, h2⟩ := argS_get h
    cases h2
  · unfold fnR at q
    show PostS K mg (fun c d _ H => E c d H) G H wr (L2.start N vs) (argS N.length ds) G (g (argS N.length ds)) _
    cases e : g (argS N.length ds) with
    | nx ρ' => rw [e] at q; exact fun σ' G' H' ok _ _ => q .non G' H' ok.ext .non
    | rt d => rw [e] at q; exact fun v G' H' e' r => q v G' H' e' r
    | bk ρ' => rw [e] at q; exact q.elim
    | ct ρ' => rw [e] at q; exact q.elim
    | ex x ρ' => rw [e] at q; exact fun c σ' G' H' m ok _ _ => q G' H' ok.ext c m
    | no => rw [e] at q; exact q.elim
/-- an error class of the text over ValueError, without an __init__ of its own -/
structure ExcF (K : PySem.W.Frag) (mg : Str → Option Value) (x : Str) (C : Addr) : Prop where
  gP : mg x = some (.ref C)
  xP : PySem.W.excIn K C [.type "ValueError", .type "Exception", .type "BaseException", .type "object"] "ValueError.__new__" = true
  kP : PySem.W.keepIn K (.ref C) = true
  bP : PySem.W.subIn K (.ref C) (.type "BaseException") = some true
  tP : PySem.W.typeIn K (.ref C) = some (.type "type")
theorem s_raise {X : Cx} {W : WX} {x m : Str} {j : Nat} {p p2 p3 pos : Pos} {C : Addr} (T : ExcF X.K X.mg x C) (tk : Takes X W) (hg : Gl X x := by rfl) (hc : X.calm = true := by rfl) (hdb : (x == ("__debug__" : Str)) = false := by decide) : PSD X W [] (.Raise (some (.Call (.Name x p) [.Constant (.str m) j p2] [] p3)) none pos) (fun ρ => .ex x ρ) :=
  (ps_raise hc tk (pmk_own PySem.F.excBase_ValueError T.xP T.gP T.kP (raises_own T.bP T.tP) hg hdb)).wk fun Dd σ H ⟨G0, H0, G, ρ, ok, q⟩ => q (.ref C) σ G H T.gP ok (.refl _) .refl
end
end TD

/-! TdFun: the built-ins, over data. -/
namespace TD
open PySem PySem.Spec PyProof.Rows L2
section
variable {X : Cx} {W : WX}
/-! ### len, abs, min, max, int, str -/
def lenK : List D → R D := fun ds => match ds with
  | [.list xs] => .ok (.int xs.length)
  | [.tuple xs] => .ok (.int xs.length)
  | [.str z] => if lineOk z.length then .ok (.int z.length) else .no
  | [.dict [(.none, .list xs)]] => .ok (.int xs.length)
  | _ => .no
theorem RpAll.inv1 {K : PySem.W.Frag} {G : Hp} {xs : List V} {d : D} (h : RpAll K G xs [d]) : ∃ v, xs = [v] ∧ Rp K G v d := by
  cases h with
  | cons h1 h2 => cases h2; exact ⟨_, rfl, h1⟩
theorem RpAll.inv2 {K : PySem.W.Frag} {G : Hp} {xs : List V} {d e : D} (h : RpAll K G xs [d, e]) : ∃ v u, xs = [v, u] ∧ Rp K G v d ∧ Rp K G u e := by
  cases h with
  | cons h1 h2 =>
    obtain ⟨u, rfl, r⟩ := h2.inv1
    exact ⟨_, _, rfl, h1, r⟩
def rLenAll (K : PySem.W.Frag) : List V → Hp → VK → Prop := fun xs H Q => (∃ p ys, xs = [.ref p] ∧ (SqL K H p ys ∨ SqT K H p ys) ∧ Q (.int ys.length) H) ∨ ∃ z, xs = [.str z] ∧ z.length ≤ sizeLine ∧ Q (.int z.length) H
theorem cr_len : CallR X (.builtin "len") (rLenAll X.K) := call_len_seq.or call_len_str
theorem cd_len : CallD X (rLenAll X.K) lenK := by
  intro ds xs G H Wx Q hs rr q
  unfold lenK at q
  split at q
  · obtain ⟨v, rfl, r⟩ := rr.inv1
    obtain ⟨a, ys, rfl, h1, g1, p1⟩ := r.seqL hs
    exact .inl ⟨a, ys, rfl, .inl (SqL.of h1), by rw [p1.length]; exact q.done hs (.int _)⟩
  · obtain ⟨v, rfl, r⟩ := rr.inv1
    obtain ⟨a, ys, rfl, h1, g1, p1⟩ := r.seqT hs
    exact .inl ⟨a, ys, rfl, .inr h1, by rw [p1.length]; exact q.done hs (.int _)⟩
  · obtain ⟨v, rfl, r⟩ := rr.inv1
    cases r
    split at q
    · rename_i h
      exact .inr ⟨_, rfl, lineOk_le h, q.done hs (.int _)⟩
    · exact q.elim
  · obtain ⟨v, rfl, r⟩ := rr.inv1
    obtain ⟨a, ns, rfl, rfl, h1⟩ := scr_inv r
    exact .inl ⟨a, _, rfl, .inl (hs.seq h1), by rw [List.length_map] at q ⊢; exact q.done hs (.int _)⟩
  · exact q.elim
theorem ld_len : LstD X (rLenAll X.K) (fun ds => .ok (.int ds.length)) := by
  intro ds a xs G H Wx Q hs h r q
  exact .inl ⟨a, xs, rfl, .inl (SqL.of h), by rw [r.length]; exact q.done hs (.int _)⟩
def absK : List D → R D := fun ds => match ds with
  | [.int i] => .ok (.int (if i < 0 then -i else i))
  | _ => .no
theorem cd_abs : CallD X (fun xs H Q => ∃ i, xs = [.int i] ∧ Q (.int (if i < 0 then -i else i)) H) absK := by
  intro ds xs G H Wx Q hs rr q
  unfold absK at q
  split at q
  · obtain ⟨v, rfl, r⟩ := rr.inv1
    cases r
    exact ⟨_, rfl, q.done hs (.int _)⟩
  · exact q.elim
def min2K : List D → R D := fun ds => match ds with
  | [.int i, .int j] => .ok (.int (if j < i then j else i))
  | _ => .no
def max2K : List D → R D := fun ds => match ds with
  | [.int i, .int j] => .ok (.int (if j > i then j else i))
  | _ => .no
theorem cd_min2 : CallD X (fun xs H Q => ∃ i j, xs = [.int i, .int j] ∧ Q (.int (if j < i then j else i)) H) min2K := by
  intro ds xs G H Wx Q hs rr q
  unfold min2K at q
  split at q
  · obtain ⟨v, u, rfl, r, r'⟩ := rr.inv2
    cases r; cases r'
    exact ⟨_, _, rfl, q.done hs (.int _)⟩
  · exact q.elim
theorem cd_max2 : CallD X (fun xs H Q => ∃ i j, xs = [.int i, .int j] ∧ Q (.int (if j > i then j else i)) H) max2K := by
  intro ds xs G H Wx Q hs rr q
  unfold max2K at q
  split at q
  · obtain ⟨v, u, rfl, r, r'⟩ := rr.inv2
    cases r; cases r'
    exact ⟨_, _, rfl, q.done hs (.int _)⟩
  · exact q.elim
def intK : List D → R D := fun ds => match ds with
  | [.int i] => .ok (.int i)
  | [.bool b] => .ok (.int (if b then 1 else 0))
  | _ => .no
theorem cd_int : CallD X (fun xs H Q => (∃ i, xs = [.int i] ∧ Q (.int i) H) ∨ ∃ k, xs = [.bl k] ∧ Q (.int (if k then 1 else 0)) H) intK := by
  intro ds xs G H Wx Q hs rr q
  unfold intK at q
  split at q
  · obtain ⟨v, rfl, r⟩ := rr.inv1
    cases r
    exact .inl ⟨_, rfl, q.done hs (.int _)⟩
  · obtain ⟨v, rfl, r⟩ := rr.inv1
    cases r
    exact .inr ⟨_, rfl, q.done hs (.int _)⟩
  · exact q.elim
def strK : List D → R D := fun ds => match ds with
  | [.int i] => if decide (i.natAbs.log2 < 1920) then .ok (.str (toString i)) else .no
  | _ => .no
theorem cd_str : CallD X (fun xs H Q => ∃ i, xs = [.int i] ∧ i.natAbs.log2 < 1920 ∧ Q (.str (toString i)) H) strK := by
  intro ds xs G H Wx Q hs rr q
  unfold strK at q
  split at q
  · obtain ⟨v, rfl, r⟩ := rr.inv1
    cases r
    split at q
    · rename_i h
      exact ⟨_, rfl, of_decide_eq_true h, q.done hs (.str _)⟩
    · exact q.elim
  · exact q.elim
/-! ### tuple, list -/
def tupK : List D → R D := fun ds => match ds with
  | [.tuple xs] => .ok (.tuple xs)
  | [.list xs] => .ok (.tuple xs)
  | _ => .no
theorem cd_tup : CallD X (fun xs H Q => ∃ p ys, xs = [.ref p] ∧ ((SqL X.K H p ys ∧ ∀ l, H l = none → Q (.ref l) (upd H l (.tup ys))) ∨ (SqT X.K H p ys ∧ Q (.ref p) H))) tupK := by
  intro ds xs G H Wx Q hs rr q
  unfold tupK at q
  split at q
  · obtain ⟨v, rfl, r⟩ := rr.inv1
    obtain ⟨a, ys, rfl, h1, g1, p1⟩ := r.seqT hs
    exact ⟨a, ys, rfl, .inr ⟨h1, q.done hs r⟩⟩
  · obtain ⟨v, rfl, r⟩ := rr.inv1
    obtain ⟨a, ys, rfl, h1, g1, p1⟩ := r.seqL hs
    refine ⟨a, ys, rfl, .inl ⟨SqL.of h1, fun l hl => ?_⟩⟩
    have e := Ext.new (o := .tup ys) hs hl
    exact q _ _ _ e (.tup (SqT.of upd_same) (p1.up e.gg))
  · exact q.elim
theorem ld_tup : LstD X (fun xs H Q => ∃ p ys, xs = [.ref p] ∧ ((SqL X.K H p ys ∧ ∀ l, H l = none → Q (.ref l) (upd H l (.tup ys))) ∨ (SqT X.K H p ys ∧ Q (.ref p) H))) (fun ds => .ok (.tuple ds)) := by
  intro ds a xs G H Wx Q hs h r q
  refine ⟨a, xs, rfl, .inl ⟨SqL.of h, fun l hl => ?_⟩⟩
  have e := Ext.new (o := .tup xs) hs hl
  exact q _ _ _ e (.tup (SqT.of upd_same) (r.up e.gg))
theorem ln_lst : LstN X (fun xs H Q => ∃ p ys, xs = [.ref p] ∧ (SqL X.K H p ys ∨ SqT X.K H p ys) ∧ ∀ l, H l = none → Q (.ref l) (upd H l (.lst ys))) (fun ds => .ok ds) := by
  intro ds a xs G H Wx Q hs h r q
  refine ⟨a, xs, rfl, .inl (SqL.of h), fun l hl => ?_⟩
  exact q l xs G _ (Ext.newH hs hl) hl (hs.free hl) upd_same r
/-- list(t) of settled data -/
def lstK : List D → R (List D) := fun ds => match ds with
  | [.tuple xs] => .ok xs
  | [.list xs] => .ok xs
  | _ => .no
theorem n_lstOf {x : Str} {p pos : Pos} {e : Expr} {g : EnvS → R (List D)} (hm : X.mg x = none) (hv : bootBuiltins x = some (.type "list")) (ha : PAD X W [e] g) (hg : Gl X x := by rfl) (hn : x ≠ "__name__" := by decide) (hdb : (x == ("__debug__" : Str)) = false := by decide)
    (he : starEach [e] X.env = (false, eval e X.env) :: starEach [] X.env := by rfl) : PDN X W (.Call (.Name x p) [e] [] pos) (callN lstK g) :=
  (pe_callTy call_list_of hg hm hv ha hn hdb he rfl).wk fun σ H Q ⟨G, ρ, hs, he, q⟩ => seqP PostN.fin q hs he fun as vs G1 H1 _ e1 r1 he1 q1 => by
    unfold lstK at q1
    split at q1
    · obtain ⟨v, rfl, r⟩ := RpAll.inv1 r1
      obtain ⟨a, ys, rfl, h1, g1, p1⟩ := r.seqT e1.sub
      exact ⟨a, ys, rfl, .inr h1, fun l hl => q1 l ys G1 _ (Ext.newH e1.sub hl) hl (e1.sub.free hl) upd_same p1⟩
    · obtain ⟨v, rfl, r⟩ := RpAll.inv1 r1
      obtain ⟨a, ys, rfl, h1, g1, p1⟩ := r.seqL e1.sub
      exact ⟨a, ys, rfl, .inl (SqL.of h1), fun l hl => q1 l ys G1 _ (Ext.newH e1.sub hl) hl (e1.sub.free hl) upd_same p1⟩
    · exact q1.elim
/-- list(range(..)) -/
def rgNew (f : EnvS → R D) : EnvS → R (List D) := fun ρ => (f ρ).bind fun d => match d with
  | .int i => if decide (0 ≤ i ∧ i ≤ 16777216) then .ok (rngD 0 i.toNat) else .no
  | _ => .no
theorem n_listRg {a : Expr} {p p2 pos pos2 : Pos} {f : EnvS → R D} (hm : X.mg "list" = none) (hm2 : X.mg "range" = none) (ha : PD X W a f) (hg : Gl X "list" := by rfl) (hg2 : Gl X "range" := by rfl) (hc : X.calm = true := by rfl) (na2 : starEach [a] X.env = (false, eval a X.env) :: starEach [] X.env := by rfl)
    (na : starEach [(.Call (.Name "range" p2) [a] [] pos2)] X.env = (false, eval (.Call (.Name "range" p2) [a] [] pos2) X.env) :: starEach [] X.env := by rfl) : PDN X W (.Call (.Name "list" p) [.Call (.Name "range" p2) [a] [] pos2] [] pos) (rgNew f) :=
  (pe_listRg hc hg hm (prg_1 hg2 hm2 ha na2) na).wk fun σ H Q ⟨G, ρ, hs, he, q⟩ => by
    unfold rgNew at q
    refine seqP PostN.fin q hs he fun a v G1 H1 _ e1 r1 he1 q1 => ?_
    cases a with
    | int i =>
      cases r1
      dsimp only at q1
      split at q1
      · rename_i h
        have h' := of_decide_eq_true h
        refine ⟨i, rfl, .of_le (Int.le_refl 0) h'.2 (by decide) h'.1, fun l hl => ?_⟩
        refine q1 l _ G1 _ (Ext.newH e1.sub hl) hl (e1.sub.free hl) upd_same ?_
        have e : rgV 0 i = (List.range i.toNat).map fun j => V.int (0 + (j : Nat)) := by unfold rgV; rw [Int.sub_zero]
        rw [e]
        unfold rngD
        have : ∀ l : List Nat, RpAll X.K G1 (l.map fun j => V.int (0 + (j : Nat))) (l.map fun j => PyData.int (0 + (j : Nat))) := by
          intro l
          induction l with
          | nil => exact .nil
          | cons x r ih => exact .cons (.int _) ih
        exact this _
      · exact q1.elim
    | _ => exact q1.elim
/-! ### any, all, sum, max, min of a list that may be read -/
def anyK : List D → R D := fun ds => match boolsOf ds with
  | some bs => .ok (.bool (bs.any id))
  | none => .no
def allK : List D → R D := fun ds => match boolsOf ds with
  | some bs => .ok (.bool (bs.all id))
  | none => .no
def sumK : List D → R D := fun ds => match intsOf ds with
  | some ns => .ok (.int ns.sum)
  | none => .no
theorem ld_any : LstD X (rAny X.K) anyK := by
  intro ds a xs G H Wx Q hs h r q
  unfold anyK at q
  split at q
  · rename_i bs e
    rw [boolsOf_some e] at r
    rw [r.of_bools] at h
    exact ⟨a, bs, rfl, SqL.of h, q.done hs (.bl _)⟩
  · exact q.elim
theorem ld_all : LstD X (rAll X.K) allK := by
  intro ds a xs G H Wx Q hs h r q
  unfold allK at q
  split at q
  · rename_i bs e
    rw [boolsOf_some e] at r
    rw [r.of_bools] at h
    exact ⟨a, bs, rfl, SqL.of h, q.done hs (.bl _)⟩
  · exact q.elim
theorem ld_sum : LstD X (rSum X.K) sumK := by
  intro ds a xs G H Wx Q hs h r q
  unfold sumK at q
  split at q
  · rename_i bs e
    rw [intsOf_some e] at r
    rw [r.of_ints] at h
    exact ⟨a, bs, rfl, SqL.of h, q.done hs (.int _)⟩
  · exact q.elim
def maxI : List Int → Int
  | [] => 0
  | [a] => a
  | a :: r => if maxI r > a then maxI r else a
def minI : List Int → Int
  | [] => 0
  | [a] => a
  | a :: r => if minI r < a then minI r else a
theorem maxI_mem : ∀ {ns : List Int}, ns ≠ [] → maxI ns ∈ ns ∧ ∀ y ∈ ns, y ≤ maxI ns
  | [a], _ => ⟨List.mem_singleton_self a, fun y h => by rw [List.mem_singleton] at h; subst h; exact Int.le_refl _⟩
  | a :: b :: r, _ => by
    obtain ⟨h1, h2⟩ := maxI_mem (ns := b :: r) (by simp)
    have e : maxI (a :: b :: r) = if maxI (b :: r) > a then maxI (b :: r) else a := rfl
    rw [e]
    split
    · exact ⟨List.mem_cons_of_mem _ h1, fun y hy => by
        rcases List.mem_cons.mp hy with z | z
        · subst z; omega
        · exact h2 y z⟩
    · exact ⟨List.mem_cons_self, fun y hy => by
        rcases List.mem_cons.mp hy with z | z
        · subst z; omega
        · have := h2 y z; omega⟩
theorem minI_mem : ∀ {ns : List Int}, ns ≠ [] → minI ns ∈ ns ∧ ∀ y ∈ ns, minI ns ≤ y
  | [a], _ => ⟨List.mem_singleton_self a, fun y h => by rw [List.mem_singleton] at h; subst h; exact Int.le_refl _⟩
  | a :: b :: r, _ => by
    obtain ⟨h1, h2⟩ := minI_mem (ns := b :: r) (by simp)
    have e : minI (a :: b :: r) = if minI (b :: r) < a then minI (b :: r) else a := rfl
    rw [e]
    split
    · exact ⟨List.mem_cons_of_mem _ h1, fun y hy => by
        rcases List.mem_cons.mp hy with z | z
        · subst z; omega
        · exact h2 y z⟩
    · exact ⟨List.mem_cons_self, fun y hy => by
        rcases List.mem_cons.mp hy with z | z
        · subst z; omega
        · have := h2 y z; omega⟩
def maxK : List D → R D := fun ds => match intsOf ds with
  | some (n :: ns) => .ok (.int (maxI (n :: ns)))
  | _ => .no
def minK : List D → R D := fun ds => match intsOf ds with
  | some (n :: ns) => .ok (.int (minI (n :: ns)))
  | _ => .no
theorem ld_max : LstD X (rMax X.K) maxK := by
  intro ds a xs G H Wx Q hs h r q
  unfold maxK at q
  split at q
  · rename_i n ns e
    rw [intsOf_some e] at r
    rw [r.of_ints] at h
    refine ⟨a, n :: ns, rfl, SqL.of h, by simp, fun m hm hle => ?_⟩
    obtain ⟨h1, h2⟩ := maxI_mem (ns := n :: ns) (by simp)
    have e1 := hle _ h1
    have e2 := h2 _ hm
    have e3 : m = maxI (n :: ns) := by omega
    rw [e3]
    exact q.done hs (.int _)
  · exact q.elim
theorem ld_min : LstD X (rMin X.K) minK := by
  intro ds a xs G H Wx Q hs h r q
  unfold minK at q
  split at q
  · rename_i n ns e
    rw [intsOf_some e] at r
    rw [r.of_ints] at h
    refine ⟨a, n :: ns, rfl, SqL.of h, by simp, fun m hm hle => ?_⟩
    obtain ⟨h1, h2⟩ := minI_mem (ns := n :: ns) (by simp)
    have e1 := hle _ h1
    have e2 := h2 _ hm
    have e3 : m = minI (n :: ns) := by omega
    rw [e3]
    exact q.done hs (.int _)
  · exact q.elim
/-! ### isinstance -/
def tyName : D → String
  | .none => "NoneType"
  | .bool _ => "bool"
  | .int _ => "int"
  | .str _ => "str"
  | .list _ => "list"
  | .tuple _ => "tuple"
  | .dict _ => "?"
def isiD (T : String) (f : EnvS → R D) : EnvS → R D := fun ρ => (f ρ).bind fun d => match d with
  | .dict _ => .no
  | d => match kitB (tyName d) T with
    | some b => .ok (.bool b)
    | none => .no
theorem Rp.ty {K : PySem.W.Frag} {G H : Hp} {v : V} {d : D} (hs : Same G H) (r : Rp K G v d) (hd : ∀ kv, d ≠ .dict kv) : TyX K H v (.type (tyName d)) := by
  cases d with
  | none => cases r; exact .base .non
  | bool b => cases r; exact .base (.bl b)
  | int i => cases r; exact .base (.int i)
  | str x => cases r; exact .base (.str x)
  | list ds => obtain ⟨a, xs, rfl, h1, _, _⟩ := r.seqL hs; exact .base (.lst h1)
  | tuple ds =>
    obtain ⟨a, xs, rfl, h1, _, _⟩ := r.seqT hs
    rcases h1 with (h | ⟨o, h⟩) | ⟨o, its, n, hk, hc, _⟩
    · exact .base (.tup h)
    · exact .fTuple h
    · exact .kTuple hk hc
  | dict kv => exact absurd rfl (hd kv)
theorem d_isi {x : Str} {p p2 pos : Pos} {T : String} {e : Expr} {f : EnvS → R D} (hm : X.mg "isinstance" = none) (hmT : X.mg x = none) (hvT : bootBuiltins x = some (.type T)) (ha : PD X W e f) (hg : Gl X "isinstance" := by rfl) (hgT : Gl X x := by rfl) (hnT : x ≠ "__name__" := by decide) (hdT : (x == ("__debug__" : Str)) = false := by decide)
    (he : starEach [e, .Name x p2] X.env = (false, eval e X.env) :: starEach [.Name x p2] X.env := by rfl) (he2 : starEach [.Name x p2] X.env = (false, eval (.Name x p2) X.env) :: starEach [] X.env := by rfl)
    (hpl : (backTo pos (starEach [.Name x p2] X.env)).any (·.1) = false := by rfl) : PD X W (.Call (.Name "isinstance" p) [e, .Name x p2] [] pos) (isiD T f) :=
  (pe_callB call_isi hg hm boot_isinstance (pa_cons ha (pa_cons (pe_bltn (v := .ty T) hgT hmT hvT rfl hnT hdT) pa_nil he2) he) (by decide) (by decide) he hpl).wk fun σ H Q ⟨G, ρ, hs, he, q⟩ => by
    unfold isiD at q
    refine Post.seq q hs he fun a v G1 H1 _ e1 r1 he1 q1 => ?_
    split at q1
    · exact q1.elim
    · rename_i hnd
      split at q1
      · rename_i b hb
        exact ⟨v, .ty T, _, _, b, rfl, .ty T, Rp.ty e1.sub r1 hnd, kit_ty hb, q1.done e1.sub (.bl b)⟩
      · exact q1.elim
end
end TD

/-! TdMore: slices of any kind, lent lists, index, remove, enumerate of a tuple, sorted, chains. -/
namespace TD
open PySem PySem.Spec PyProof.Rows L2
theorem hu65 {A : Around} {k : Nat} (hr : Room k A) : A.units + 65 < cLine := by have := hr.un; omega
section
variable {X : Cx} {W : WX} {pos : Pos}
/-! ### slices -/
def slcG (f : EnvS → R D) (g h : EnvS → R (Option Int)) : EnvS → R D := fun ρ => (f ρ).bind fun d => (g ρ).bind fun lo => (h ρ).bind fun hi => match d with
  | .tuple ds => .ok (.tuple (cutD ds lo hi))
  | .list ds => .ok (.list (cutD ds lo hi))
  | .str z => if lineOk z.length then .ok (.str (cutS z lo hi)) else .no
  | _ => .no
theorem d_slc {e : Expr} {lo hi : Option Expr} {p2 : Pos} {f : EnvS → R D} {g h : EnvS → R (Option Int)} (he : PD X W e f) (hl : POD X W lo g) (hu : POD X W hi h) : PD X W (.Subscript e (.Slice lo hi none p2) pos) (slcG f g h) :=
  (pe_slice (sl_tupA.or (sl_list.or sl_str)) he hl hu).wk fun σ H Q ⟨G, ρ, hs, he, q⟩ => by
    unfold slcG at q
    refine Post.seq q hs he fun a v G1 H1 _ e1 r1 he1 q1 => ?_
    refine Post.seq q1 e1.sub he1 fun lo lo' G2 H2 _ e2 r2 he2 q2 => ?_
    refine Post.seq q2 e2.sub he2 fun hi hi' G3 H3 _ e3 r3 he3 q3 => ?_
    subst r2 r3
    have r1 := Rp.up r1 (e2.gg.trans e3.gg)
    cases a with
    | tuple ds =>
      obtain ⟨l, xs, rfl, h1, g1, p1⟩ := r1.seqT e3.sub
      refine .inl ⟨l, xs, rfl, h1, fun hw => ?_, fun _ p hp => ?_⟩
      · rw [p1.length] at hw
        have q3 : Post (rpE X.K) (Wxo X.mg W σ) G3 H3 (.ok (.tuple (cutD ds lo' hi'))) Q := q3
        rw [cut_all hw] at q3
        exact q3.done e3.sub (.tup g1 p1)
      · have e := Ext.new (o := .tup (cutV xs lo' hi')) e3.sub hp
        exact q3 _ _ _ e (.tup (SqT.of upd_same) ((p1.cut lo' hi').up e.gg))
    | list ds =>
      obtain ⟨l, xs, rfl, h1, g1, p1⟩ := r1.seqL e3.sub
      refine .inr (.inl ⟨l, xs, rfl, SqL.of h1, fun p hp => ?_⟩)
      have e := Ext.new (o := .lst (cutV xs lo' hi')) e3.sub hp
      exact q3 _ _ _ e (.lst upd_same ((p1.cut lo' hi').up e.gg))
    | str z =>
      cases r1
      dsimp only at q3
      split at q3
      · rename_i hl
        exact .inr (.inr ⟨z, rfl, lineOk_le hl, q3.done e3.sub (.str _)⟩)
      · exact q3.elim
    | _ => exact q3.elim
/-! ### one's own lists lent -/
mutual
def noL : D → Bool
  | .tuple ds => noLs ds
  | .none => true
  | .bool _ => true
  | .int _ => true
  | .str _ => true
  | .list _ => false
  | .dict _ => false
def noLs : List D → Bool
  | [] => true
  | d :: r => noL d && noLs r
end
mutual
theorem noL_mono {K : PySem.W.Frag} {G G' : Hp} (h : ∀ a xs, SqT K G a xs → SqT K G' a xs) : ∀ (d : D) (v : V), noL d = true → Rp K G v d → Rp K G' v d
  | .none, _, _, r => by cases r; exact .non
  | .bool _, _, _, r => by cases r; exact .bl _
  | .int _, _, _, r => by cases r; exact .int _
  | .str _, _, _, r => by cases r; exact .str _
  | .tuple ds, v, n, r => by
    cases r with
    | tup h1 h2 => exact .tup (h _ _ h1) (noLs_mono h ds _ (by simpa [noL] using n) h2)
  | .list _, _, n, _ => by simp [noL] at n
  | .dict _, _, n, _ => by simp [noL] at n
theorem noLs_mono {K : PySem.W.Frag} {G G' : Hp} (h : ∀ a xs, SqT K G a xs → SqT K G' a xs) : ∀ (ds : List D) (vs : List V), noLs ds = true → RpAll K G vs ds → RpAll K G' vs ds
  | [], _, _, r => by cases r; exact .nil
  | d :: ds, _, n, r => by
    have n' : noL d = true ∧ noLs ds = true := by simpa [noLs] using n
    cases r with
    | cons h1 h2 => exact .cons (noL_mono h d _ n'.1 h1) (noLs_mono h ds _ n'.2 h2)
end
def toF (ρ : EnvS) : EnvS := ρ.map fun o => match o with
  | some (.ow ds) => some (.pu (.list ds))
  | o => o
def lendF (f : EnvS → R D) : EnvS → R D := fun ρ => (f (toF ρ)).bind fun d => if noL d = true then .ok d else .no
theorem d_lend {e : Expr} {f : EnvS → R D} (h : PD X W e f) : PD X W e (lendF f) := L2.PE.wk h fun σ H Q ⟨G, ρ, hs, he, q⟩ => by
  classical
  let own : Addr → Prop := fun p => ∃ (i : Nat) (ds : List D), ρ[i]? = some (some (.ow ds)) ∧ σ[i]? = some (some (V.ref p))
  have ownH : ∀ p, own p → G p = none ∧ ∃ vs, H p = some (.lst vs) := fun p ⟨i, ds, h1, h2⟩ => by
    obtain ⟨p', vs, z1, z2, z3, _⟩ := he.ow i ds h1
    rw [h2] at z1
    cases z1
    exact ⟨z3, vs, z2⟩
  let GF : Hp := fun p => if own p then H p else G p
  have gfO : ∀ p, own p → GF p = H p := fun p h => if_pos h
  have gfN : ∀ p, ¬ own p → GF p = G p := fun p h => if_neg h
  have sF : Same G GF := fun b o hb => by
    by_cases z : own b
    · rw [(ownH b z).1] at hb; cases hb
    · rw [gfN b z]; exact hb
  have sH : Same GF H := fun b o hb => by
    by_cases z : own b
    · rw [gfO b z] at hb; exact hb
    · rw [gfN b z] at hb; exact hs b o hb
  have envF : EnvE X.K GF H σ (toF ρ) := by
    refine ⟨fun i d hi => ?_, fun i ds hi => ?_, by unfold toF; rw [List.length_map]; exact he.len⟩
    · unfold toF at hi
      rw [List.getElem?_map] at hi
      cases ei : ρ[i]? with
      | none => rw [ei] at hi; cases hi
      | some o =>
        rw [ei] at hi
        cases o with
        | none => cases hi
        | some s =>
          cases s with
          | pu d' =>
            cases hi
            obtain ⟨v, h1, h2⟩ := he.pu i d ei
            exact ⟨v, h1, h2.up sF⟩
          | ow ds =>
            cases hi
            obtain ⟨p, vs, h1, h2, h3, h4⟩ := he.ow i ds ei
            exact ⟨_, h1, .lst (by rw [gfO p ⟨i, ds, ei, h1⟩]; exact h2) (h4.up sF)⟩
    · unfold toF at hi
      rw [List.getElem?_map] at hi
      cases ei : ρ[i]? with
      | none => rw [ei] at hi; cases hi
      | some o =>
        rw [ei] at hi
        cases o with
        | none => cases hi
        | some s => cases s <;> cases hi
  -- back
  have back : ∀ {G' H' : Hp}, Ext GF H G' H' → ∃ G2, Ext G H G2 H' ∧ ∀ a xs, SqT X.K G' a xs → SqT X.K G2 a xs := fun {G' H'} e => by
    refine ⟨fun p => if own p then none else G' p, ⟨fun b o hb => ?_, e.hh, fun b o hb => ?_, fun p h1 h2 => ?_⟩, fun a xs r => ?_⟩
    · by_cases z : own b
      · rw [if_pos z] at hb; cases hb
      · rw [if_neg z] at hb; exact e.sub b o hb
    · have z : ¬ own b := fun z => by rw [(ownH b z).1] at hb; cases hb
      show (if own b then none else G' b) = some o
      rw [if_neg z]
      exact e.gg b o (sF b o hb)
    · by_cases z : own p
      · exact absurd (if_pos z) h2
      · have h2 : G' p ≠ none := fun q => h2 (by show (if own p then none else G' p) = none; rw [if_neg z]; exact q)
        exact e.fr p (by rw [gfN p z]; exact h1) h2
    · have no : ∀ o, G' a = some o → (∀ vs, o ≠ .lst vs) → (if own a then none else G' a) = some o := fun o ho hn => by
        have z : ¬ own a := fun z => by
          obtain ⟨_, vs, hv⟩ := ownH a z
          have := e.gg a _ (by rw [gfO a z]; exact hv)
          rw [ho] at this
          cases this
          exact hn vs rfl
        rw [if_neg z]
        exact ho
      rcases r with (r | ⟨o, r⟩) | r
      · exact .inl (.inl (no _ r fun vs z => by cases z))
      · exact .inl (.inr ⟨o, no _ r fun vs z => by cases z⟩)
      · exact .inr r
  unfold lendF at q
  refine ⟨GF, toF ρ, sH, envF, ?_⟩
  cases ef : f (toF ρ) with
  | ex x =>
    rw [ef] at q
    intro G' H' e
    obtain ⟨G2, e2, _⟩ := back e
    exact q G2 H' e2
  | no => rw [ef] at q; exact q
  | ok d =>
    rw [ef] at q
    dsimp only [R.bind] at q
    split at q
    · rename_i hn
      intro v G' H' e r
      obtain ⟨G2, e2, hT⟩ := back e
      exact q v G2 H' e2 (noL_mono hT d v hn r)
    · exact q.elim
/-! ### chains of two comparisons -/
theorem tChD {r r' : R2} {k k' : D → D → R D} {f g h : EnvS → R D} (hk : OpD X r k) (hk' : OpD X r' k') {σ : L2.St} {H : Hp} {Q : VK} (q : tD X.K X.mg W (rpE X.K) (chD k k' f g h) σ H Q) :
    tChain r r' (tD X.K X.mg W (rpE X.K) f) (tD X.K X.mg W (rpE X.K) g) (tD X.K X.mg W (rpE X.K) h) σ H Q := by
  obtain ⟨G, ρ, hs, he, q⟩ := q
  unfold chD at q
  refine Post.seq q hs he fun x v G1 H1 _ e1 r1 he1 q1 => ?_
  refine Post.seq q1 e1.sub he1 fun y u G2 H2 _ e2 r2 he2 q2 => ?_
  refine hk x y v u G2 H2 (Wxo X.mg W σ) _ e2.sub (Rp.up r1 e2.gg) r2 ?_
  cases ek : k x y with
  | ex z => rw [ek] at q2; exact q2
  | no => rw [ek] at q2; exact q2
  | ok z =>
    rw [ek] at q2
    intro w G3 H3 e3 r3
    have q2 := Post.later q2 e3
    cases z with
    | bool b =>
      cases r3
      refine ⟨b, rfl, ?_⟩
      cases b with
      | true =>
        refine Post.seq q2 e3.sub (he2.up e3) fun z t G4 H4 _ e4 r4 he4 q4 => ?_
        exact hk' y z u t G4 H4 _ Q e4.sub ((Rp.up r2 e3.gg).up e4.gg) r4 q4
      | false => exact Post.done (rp := rpE X.K) q2 e3.sub (.bl false)
    | _ => exact q2.elim
theorem d_chain {op op' : CmpOp} {a b c : Expr} {r r' : R2} {k k' : D → D → R D} {f g h : EnvS → R D} (ho : OpR X (compareOp op) r) (hk : OpD X r k) (ho' : OpR X (compareOp op') r') (hk' : OpD X r' k') (ha : PD X W a f) (hb : PD X W b g) (hc : PD X W c h)
    (hm : lastMarks [op, op'] [b, c] = false := by with_unfolding_all rfl) : PD X W (.Compare a [op, op'] [b, c] pos) (chD k k' f g h) := (pe_chain ho ho' ha hb hc hm).wk fun _ _ _ q => tChD hk hk' q
theorem dt_chain {op op' : CmpOp} {a b c : Expr} {r r' : R2} {k k' : D → D → R D} {f g h : EnvS → R D} (ho : OpR X (compareOp op) r) (hk : OpD X r k) (ho' : OpR X (compareOp op') r') (hk' : OpD X r' k') (ha : PD X W a f) (hb : PD X W b g) (hc : PD X W c h)
    (hm : lastMarks [op, op'] [b, c] = false := by with_unfolding_all rfl) : PTD X W (.Compare a [op, op'] [b, c] pos) (fun ρ => asB (chD k k' f g h ρ)) := (pt_chain ho ho' ha hb hc hm).wk fun _ _ _ q => tTestD q fun _ q' => tChD hk hk' q'
/-! ### x in a tuple; a list times an int; texts -/
def rInT (K : PySem.W.Frag) : R2 := fun x y H Q => ∃ d ds, Dp K H x d ∧ Dp K H y (.tuple ds) ∧ SeqAt.shaped d = true ∧ SeqAt.shaped (.tuple ds) = true ∧ Q (.bl (ds.any fun z => PyData.eqv z d)) H
def rNotInT (K : PySem.W.Frag) : R2 := fun x y H Q => ∃ d ds, Dp K H x d ∧ Dp K H y (.tuple ds) ∧ SeqAt.shaped d = true ∧ SeqAt.shaped (.tuple ds) = true ∧ Q (.bl (!ds.any fun z => PyData.eqv z d)) H
theorem canAll_tup {ds : List D} (h : SeqAt.shaped (.tuple ds) = true) : PyData.canLayAll0 ds = true := by
  have := okD_can (d := .tuple ds) h
  simpa [PyData.canLay0] using this
theorem op_inT (hu : X.A.units + 65 < cLine) : OpR X (compareOp .In) (rInT X.K) := by
  intro pins s σ H x y v u Q I rx ry h
  obtain ⟨d, ds, hd, he, sd, se, q⟩ := h
  obtain ⟨as, r1⟩ := Dp.reads I d x v hd rx
  obtain ⟨bs, r2⟩ := Dp.reads I (.tuple ds) y u he ry
  exact SeqAt.in_tuple_reads r2 r1 (canAll_tup se) (SeqAt.canLay_of_shaped sd) (room_in_shaped sd hu) ⟨.bl _, H, I, rfl, q⟩
theorem op_notInT (hu : X.A.units + 65 < cLine) : OpR X (compareOp .NotIn) (rNotInT X.K) := by
  intro pins s σ H x y v u Q I rx ry h
  obtain ⟨d, ds, hd, he, sd, se, q⟩ := h
  obtain ⟨as, r1⟩ := Dp.reads I d x v hd rx
  obtain ⟨bs, r2⟩ := Dp.reads I (.tuple ds) y u he ry
  exact SeqAt.notIn_tuple_reads r2 r1 (canAll_tup se) (SeqAt.canLay_of_shaped sd) (room_in_shaped sd hu) ⟨.bl _, H, I, rfl, q⟩
def sign1 (s : Str) : Option Nat := match s.cps.toList with
  | [c] => some c
  | _ => none
theorem sign1_eq {s : Str} {c : Nat} (h : sign1 s = some c) : s = ⟨#[c]⟩ := by
  unfold sign1 at h
  split at h
  · rename_i c' e
    cases h
    obtain ⟨⟨l⟩⟩ := s
    have e : l = [c] := e
    rw [e]
  · cases h
def inG (a : D) : D → R D
  | .list ds => if okD a && okD (.list ds) then .ok (.bool (ds.any fun z => PyData.eqv z a)) else .no
  | .tuple ds => if okD a && okD (.tuple ds) then .ok (.bool (ds.any fun z => PyData.eqv z a)) else .no
  | .str t => match a with
    | .str s => match sign1 s with
      | some c => .ok (.bool (decide (c ∈ t.cps.toList)))
      | none => .no
    | _ => .no
  | _ => .no
def notInG (a : D) : D → R D
  | .list ds => if okD a && okD (.list ds) then .ok (.bool (!ds.any fun z => PyData.eqv z a)) else .no
  | .tuple ds => if okD a && okD (.tuple ds) then .ok (.bool (!ds.any fun z => PyData.eqv z a)) else .no
  | .str t => match a with
    | .str s => match sign1 s with
      | some c => .ok (.bool (!decide (c ∈ t.cps.toList)))
      | none => .no
    | _ => .no
  | _ => .no
def rInG (K : PySem.W.Frag) : R2 := fun x y H Q => rInD K x y H Q ∨ (rInT K x y H Q ∨ (fun x y H Q => ∃ (c : Nat) (z : Str), x = .str ⟨#[c]⟩ ∧ y = .str z ∧ Q (.bl (decide (c ∈ z.cps.toList))) H) x y H Q)
def rNotInG (K : PySem.W.Frag) : R2 := fun x y H Q => rNotInD K x y H Q ∨ (rNotInT K x y H Q ∨ (fun x y H Q => ∃ (c : Nat) (z : Str), x = .str ⟨#[c]⟩ ∧ y = .str z ∧ Q (.bl (!decide (c ∈ z.cps.toList))) H) x y H Q)
theorem or_inG (hu : X.A.units + 65 < cLine) : OpR X (compareOp .In) (rInG X.K) := (op_inD hu).or ((op_inT hu).or op_in_sign)
theorem or_notInG (hu : X.A.units + 65 < cLine) : OpR X (compareOp .NotIn) (rNotInG X.K) := (op_notInD hu).or ((op_notInT hu).or op_notIn_sign)
theorem od_inG : OpD X (rInG X.K) inG := by
  intro a b x y G H Wx Q hs ra rb q
  unfold inG at q
  split at q
  · split at q
    · rename_i h
      rw [Bool.and_eq_true] at h
      exact .inl ⟨_, _, Rp.dp _ _ (ra.up hs) (okD_can h.1), Rp.dp _ _ (rb.up hs) (okD_can h.2), h.1, h.2, q.done hs (.bl _)⟩
    · exact q.elim
  · split at q
    · rename_i h
      rw [Bool.and_eq_true] at h
      exact .inr (.inl ⟨_, _, Rp.dp _ _ (ra.up hs) (okD_can h.1), Rp.dp _ _ (rb.up hs) (okD_can h.2), h.1, h.2, q.done hs (.bl _)⟩)
    · exact q.elim
  · split at q
    · split at q
      · rename_i hc
        have hc := sign1_eq hc
        subst hc
        cases ra; cases rb
        exact .inr (.inr ⟨_, _, rfl, rfl, q.done hs (.bl _)⟩)
      · exact q.elim
    · exact q.elim
  · exact q.elim
theorem od_notInG : OpD X (rNotInG X.K) notInG := by
  intro a b x y G H Wx Q hs ra rb q
  unfold notInG at q
  split at q
  · split at q
    · rename_i h
      rw [Bool.and_eq_true] at h
      exact .inl ⟨_, _, Rp.dp _ _ (ra.up hs) (okD_can h.1), Rp.dp _ _ (rb.up hs) (okD_can h.2), h.1, h.2, q.done hs (.bl _)⟩
    · exact q.elim
  · split at q
    · rename_i h
      rw [Bool.and_eq_true] at h
      exact .inr (.inl ⟨_, _, Rp.dp _ _ (ra.up hs) (okD_can h.1), Rp.dp _ _ (rb.up hs) (okD_can h.2), h.1, h.2, q.done hs (.bl _)⟩)
    · exact q.elim
  · split at q
    · split at q
      · rename_i hc
        have hc := sign1_eq hc
        subst hc
        cases ra; cases rb
        exact .inr (.inr ⟨_, _, rfl, rfl, q.done hs (.bl _)⟩)
      · exact q.elim
    · exact q.elim
  · exact q.elim
/-- x in, not in a list that may be read -/
def inL (neg : Bool) (f : EnvS → R D) (g : EnvS → R (List D)) : EnvS → R D := fun ρ => (f ρ).bind fun a => (g ρ).bind fun ds => if okD a && okD (.list ds) then .ok (.bool (if neg then !ds.any fun z => PyData.eqv z a else ds.any fun z => PyData.eqv z a)) else .no
theorem dp_list {K : PySem.W.Frag} {G H : Hp} {a : Addr} {xs : List V} {ds : List D} (hs : Same G H) (h : H a = some (.lst xs)) (r : RpAll K G xs ds) (hk : okD (.list ds) = true) : Dp K H (.ref a) (.list ds) :=
  .lst (SqL.of h) (RpAll.dp ds xs (r.up hs) (by simpa [PyData.canLay0] using okD_can hk))
theorem tInL {neg : Bool} {f : EnvS → R D} {g : EnvS → R (List D)} {σ : L2.St} {H : Hp} {Q : VK} {r : R2} (hr : r = if neg then rNotInD X.K else rInD X.K) (q : tD X.K X.mg W (rpE X.K) (inL neg f g) σ H Q) : tOp r (tD X.K X.mg W (rpE X.K) f) (tL X.K X.mg W g) σ H Q := by
  obtain ⟨G, ρ, hs, he, q⟩ := q
  unfold inL at q
  refine Post.seq q hs he fun a v G1 H1 _ e1 r1 he1 q1 => ?_
  refine seqL Post.fin q1 e1.sub he1 fun ds b xs G2 H2 _ e2 h2 r2 he2 q2 => ?_
  split at q2
  · rename_i h
    rw [Bool.and_eq_true] at h
    subst hr
    cases neg with
    | true => exact ⟨a, ds, Rp.dp _ _ ((Rp.up r1 e2.gg).up e2.sub) (okD_can h.1), dp_list e2.sub h2 r2 h.2, h.1, h.2, q2.done e2.sub (.bl _)⟩
    | false => exact ⟨a, ds, Rp.dp _ _ ((Rp.up r1 e2.gg).up e2.sub) (okD_can h.1), dp_list e2.sub h2 r2 h.2, h.1, h.2, q2.done e2.sub (.bl _)⟩
  · exact q2.elim
theorem d_inL {a b : Expr} {f : EnvS → R D} {g : EnvS → R (List D)} (hu : X.A.units + 65 < cLine) (ha : PD X W a f) (hb : PDL X W b g) (hm : behindInMarks .In b = false := by rfl) : PD X W (.Compare a [.In] [b] pos) (inL false f g) := (pe_cmpR (op_inD hu) ha hb hm).wk fun _ _ _ q => tInL rfl q
theorem d_notInL {a b : Expr} {f : EnvS → R D} {g : EnvS → R (List D)} (hu : X.A.units + 65 < cLine) (ha : PD X W a f) (hb : PDL X W b g) (hm : behindInMarks .NotIn b = false := by rfl) : PD X W (.Compare a [.NotIn] [b] pos) (inL true f g) := (pe_cmpR (op_notInD hu) ha hb hm).wk fun _ _ _ q => tInL rfl q
theorem dt_inL {a b : Expr} {f : EnvS → R D} {g : EnvS → R (List D)} (hu : X.A.units + 65 < cLine) (ha : PD X W a f) (hb : PDL X W b g) (hm : behindInMarks .In b = false := by rfl) : PTD X W (.Compare a [.In] [b] pos) (fun ρ => asB (inL false f g ρ)) := (pt_cmpR (op_inD hu) ha hb hm).wk fun _ _ _ q => tTestD q fun _ q' => tInL rfl q'
theorem dt_notInL {a b : Expr} {f : EnvS → R D} {g : EnvS → R (List D)} (hu : X.A.units + 65 < cLine) (ha : PD X W a f) (hb : PDL X W b g) (hm : behindInMarks .NotIn b = false := by rfl) : PTD X W (.Compare a [.NotIn] [b] pos) (fun ρ => asB (inL true f g ρ)) := (pt_cmpR (op_notInD hu) ha hb hm).wk fun _ _ _ q => tTestD q fun _ q' => tInL rfl q'
/-- list * int -/
def repL (f : EnvS → R (List D)) (g : EnvS → R D) : EnvS → R (List D) := fun ρ => (f ρ).bind fun ds => (g ρ).bind fun d => match d with
  | .int k => if decide (0 ≤ k ∧ k < 100000) && lineOk (ds.length * k.toNat) then .ok (List.replicate k.toNat ds).flatten else .no
  | _ => .no
theorem RpAll.rep {K : PySem.W.Frag} {G : Hp} {xs : List V} {ds : List D} (r : RpAll K G xs ds) : ∀ k : Nat, RpAll K G (List.replicate k xs).flatten (List.replicate k ds).flatten
  | 0 => .nil
  | k + 1 => by
    rw [List.replicate_succ, List.replicate_succ, List.flatten_cons, List.flatten_cons]
    exact r.append (RpAll.rep r k)
theorem n_rep {a b : Expr} {f : EnvS → R (List D)} {g : EnvS → R D} (ha : PDL X W a f) (hb : PD X W b g) : PDN X W (.BinOp a .Mult b pos) (repL f g) := (pe_op op_rep ha hb).wk fun σ H Q ⟨G, ρ, hs, he, q⟩ => by
  unfold repL at q
  refine seqL PostN.fin q hs he fun ds a xs G1 H1 _ e1 h1 r1 he1 q1 => ?_
  refine seqP PostN.fin q1 e1.sub he1 fun i v G2 H2 _ e2 r2 he2 q2 => ?_
  cases i with
  | int k =>
    cases r2
    dsimp only at q2
    split at q2
    · rename_i h
      rw [Bool.and_eq_true] at h
      have hk := of_decide_eq_true h.1
      refine ⟨a, k, xs, rfl, rfl, e2.hh _ _ h1, by omega, by omega, by rw [r1.length]; exact lineOk_le h.2, fun p hp => ?_⟩
      exact q2 p _ G2 _ (Ext.newH e2.sub hp) hp (e2.sub.free hp) upd_same ((r1.up e2.gg).rep _)
    · exact q2.elim
  | _ => exact q2.elim
/-- s.split(sep) -/
def splF (f g : EnvS → R D) : EnvS → R (List D) := fun ρ => (f ρ).bind fun d => match d with
  | .str a => (g ρ).bind fun d' => match d' with
    | .str b => if decide (b.length ≠ 0) && lineOk (a.length + 2) then .ok ((Txt.split a b).map .str) else .no
    | _ => .no
  | _ => .no
theorem RpAll.strs {K : PySem.W.Frag} {G : Hp} : ∀ ys : List Str, RpAll K G (ys.map V.str) (ys.map PyData.str)
  | [] => .nil
  | y :: r => .cons (.str y) (RpAll.strs r)
theorem n_split {o e : Expr} {apos : Pos} {f g : EnvS → R D} (ho : PD X W o f) (he : PD X W e g) (hs : starEach [e] X.env = [(false, eval e X.env)] := by rfl) (hbase : attributeBase o "split" X.env (eval o X.env) = eval o X.env := by rfl) (hline : (apos.endLine == pos.line) = true := by rfl) :
    PDN X W (.Call (.Attribute o "split" apos) [e] [] pos) (splF f g) := (pe_split ho he hs hbase hline).wk fun σ H Q ⟨G, ρ, hs, he, q⟩ => by
  unfold splF at q
  refine seqP PostN.fin q hs he fun a v G1 H1 _ e1 r1 he1 q1 => ?_
  cases a with
  | str a =>
    cases r1
    refine ⟨⟨a, rfl⟩, ?_⟩
    refine seqP PostN.fin q1 e1.sub he1 fun b u G2 H2 _ e2 r2 he2 q2 => ?_
    cases b with
    | str b =>
      cases r2
      dsimp only at q2
      split at q2
      · rename_i h
        rw [Bool.and_eq_true] at h
        have hb := of_decide_eq_true h.1
        refine ⟨a, b, rfl, rfl, beq_eq_false_iff_ne.mpr hb, lineOk_le h.2, fun p hp => ?_⟩
        exact q2 p _ G2 _ (Ext.newH e2.sub hp) hp (e2.sub.free hp) upd_same (RpAll.strs _)
      · exact q2.elim
    | _ => exact q2.elim
  | _ => exact q1.elim
/-- int(..) of an int, a truth value, a text -/
def intG : List D → R D := fun ds => match ds with
  | [.int i] => .ok (.int i)
  | [.bool b] => .ok (.int (if b then 1 else 0))
  | [.str s] => match PySem.intText? s with
    | some n => if decide (s.length ≤ 640) then .ok (.int n) else .no
    | none => .no
  | _ => .no
def rIntG : List V → Hp → VK → Prop := fun xs H Q => ((∃ i, xs = [.int i] ∧ Q (.int i) H) ∨ ∃ k, xs = [.bl k] ∧ Q (.int (if k then 1 else 0)) H) ∨ ∃ a n, xs = [.str a] ∧ PySem.intText? a = some n ∧ a.length ≤ 640 ∧ Q (.int n) H
theorem cr_intG : CallR X (.type "int") rIntG := call_int1.or call_int_str
theorem cd_intG : CallD X rIntG intG := by
  intro ds xs G H Wx Q hs rr q
  unfold intG at q
  split at q
  · obtain ⟨v, rfl, r⟩ := rr.inv1
    cases r
    exact .inl (.inl ⟨_, rfl, q.done hs (.int _)⟩)
  · obtain ⟨v, rfl, r⟩ := rr.inv1
    cases r
    exact .inl (.inr ⟨_, rfl, q.done hs (.int _)⟩)
  · obtain ⟨v, rfl, r⟩ := rr.inv1
    cases r
    split at q
    · rename_i n e
      split at q
      · rename_i h
        exact .inr ⟨_, n, rfl, e, of_decide_eq_true h, q.done hs (.int _)⟩
      · exact q.elim
    · exact q.elim
  · exact q.elim
end
end TD

/-! TdTry: try .. except, over data. -/
namespace TD
open PySem PySem.Spec PyProof.Rows L2
def hdO (xs : List Str) (x : Str) (ρ1 : EnvS) : List (Str × (EnvS → Out)) → Out
  | [] => .ex x ρ1
  | (y, gs) :: r => if x ∈ xs ∧ y ∈ xs then (if x = y then (match gs ρ1 with
      | .ex _ _ => .no
      | o => o) else hdO xs x ρ1 r) else .no
def tryO (xs : List Str) (g : EnvS → Out) (hs : List (Str × (EnvS → Out))) : EnvS → Out := fun ρ => match g ρ with
  | .ex x ρ1 => hdO xs x ρ1 hs
  | o => o
/-- which error is which -/
def EX (K : PySem.W.Frag) (mg : Str → Option Value) (xs : List Str) : Prop := ∀ x, x ∈ xs → ∀ y, y ∈ xs → ∀ c c', mg x = some c → mg y = some c' → PySem.W.exmOne K c c' = some (decide (x = y))
inductive HsD (X : Cx) (wrh : List Nat) : List ExceptHandler → List (Str × (EnvS → Out)) → List (Value × (Addr → Value → Option Addr → TS)) → Prop
  | nil : HsD X wrh [] [] []
  | cons {x : Str} {c : Value} {gs : EnvS → Out} {b₀ : Stmt} {suite : List Stmt} {np pos' : Pos} {hds : List ExceptHandler} {l : List (Str × (EnvS → Out))} {ll : List (Value × (Addr → Value → Option Addr → TS))} (hm : X.mg x = some c)
      (hsu : ∀ (a : Addr) (oe : Obj) (cls : Value) (d : Option Addr) (pn : List (Addr × Obj)), Zc cls d oe → (∃ vs, oe.data = .fields vs) → PSsD (X.suite a ((a, oe) :: pn)) W0 wrh (b₀ :: suite) gs) (r : HsD X wrh hds l ll)
      (hg : Gl X x := by rfl) (hdb : (x == ("__debug__" : Str)) = false := by decide) :
      HsD X wrh (.ExceptHandler (some (.Name x np)) none (b₀ :: suite) pos' :: hds) ((x, gs) :: l) ((c, fun _ _ _ => tS X.K X.mg W0 wrh gs) :: ll)
section
variable {X : Cx} {W : WX} {wr wrh : List Nat} {pos : Pos}
theorem d_globI {x : Str} {i : Int} {t : Tok} (hm : X.mg x = some (.int i t)) (hg : Gl X x := by rfl) (hd : (x == ("__debug__" : Str)) = false := by decide) : PD X W (.Name x pos) (cD (.int i)) := d_glob (v := .int i) hg hm ⟨t, rfl⟩ (fun _ => .int i) hd
theorem d_globS {x : Str} {i : Str} {t : Tok} (hm : X.mg x = some (.str i t)) (hg : Gl X x := by rfl) (hd : (x == ("__debug__" : Str)) = false := by decide) : PD X W (.Name x pos) (cD (.str i)) := d_glob (v := .str i) hg hm ⟨t, rfl⟩ (fun _ => .str i) hd
theorem d_globT {x : Str} {a : Addr} {d : D} (hm : X.mg x = some (.ref a) ∧ ∀ G, Rp X.K G (.ref a) d) (hg : Gl X x := by rfl) (hd : (x == ("__debug__" : Str)) = false := by decide) : PD X W (.Name x pos) (cD d) := d_glob (v := .ref a) hg hm.1 rfl hm.2 hd
theorem HsD.hds {hds : List ExceptHandler} {l : List (Str × (EnvS → Out))} {ll : List (Value × (Addr → Value → Option Addr → TS))} (h : HsD X wrh hds l ll) : HdsOk X hds ll := by
  induction h with
  | nil => exact .nil
  | cons hm hsu r hg hdb ih => exact .cons ⟨hg, hdb, .inl hm⟩ (fun a oe cls d pn z v => hsu a oe cls d pn z v) ih
theorem ss_mono {wr' : List Nat} {st : List Stmt} {g : EnvS → Out} (h : PSsD X W wr st g) (s : ∀ i, i ∈ wr → i ∈ wr') : PSsD X W wr' st g := L2.PSs.wk h fun Dd σ H ⟨G0, H0, G, ρ, ok, q⟩ => ⟨G0, H0, G, ρ, ok, PostS.later q s (.refl _) .refl⟩
theorem hd_post {K : PySem.W.Frag} {mg : Str → Option Value} {xs : List Str} (hE : EX X.K X.mg xs) {hds : List ExceptHandler} {l : List (Str × (EnvS → Out))} {ll : List (Value × (Addr → Value → Option Addr → TS))} (h : HsD X wrh hds l ll)
    {G0 H0 G : Hp} {σ : L2.St} {ρ : EnvS} {x : Str} {ρ1 : EnvS} {Dd : Ends} {wr' : List Nat} (hw : ∀ i, i ∈ wrh → i ∈ wr') (q : PostS X.K X.mg W G0 H0 wr' σ ρ G (hdO xs x ρ1 l) Dd)
    {c : Value} {σ' : L2.St} {G' H' : Hp} (m : X.mg x = some c) (ok : StOk X.K G0 H0 G' H' σ' ρ1) (sg : Same G G') (fr : Fr wr' σ ρ σ' ρ1) : wMany X.K W Dd ll c none σ' H' := by
  induction h with
  | nil => exact q c σ' G' H' m ok sg fr
  | cons hm hsu r hg hdb ih =>
    rename_i y cy gs b0 suite np pos' hds l ll
    unfold hdO at q
    split at q
    · rename_i hmem
      refine ⟨decide (x = y), hE x hmem.1 y hmem.2 c cy m hm, fun hb a ha => ?_, fun hb => ?_⟩
      · have e := of_decide_eq_true hb
        rw [if_pos e] at q
        refine ⟨G0, H0, G', ρ1, ok, ?_⟩
        cases eg : gs ρ1 with
        | nx ρ2 => rw [eg] at q; exact PostS.later (W := W0) (o := .nx ρ2) (show PostS X.K X.mg W0 G0 H0 wr' σ ρ G (.nx ρ2) Dd from q) hw sg fr
        | rt d => rw [eg] at q; exact q
        | bk ρ2 => rw [eg] at q; exact PostS.later (W := W0) (o := .bk ρ2) (show PostS X.K X.mg W0 G0 H0 wr' σ ρ G (.bk ρ2) Dd from q) hw sg fr
        | ct ρ2 => rw [eg] at q; exact PostS.later (W := W0) (o := .ct ρ2) (show PostS X.K X.mg W0 G0 H0 wr' σ ρ G (.ct ρ2) Dd from q) hw sg fr
        | ex z ρ2 => rw [eg] at q; exact q.elim
        | no => rw [eg] at q; exact q
      · have e := of_decide_eq_false hb
        rw [if_neg e] at q
        exact ih q
    · exact q.elim
theorem s_try (xs : List Str) {body : List Stmt} {h₀ : ExceptHandler} {hds : List ExceptHandler} {g : EnvS → Out} {l : List (Str × (EnvS → Out))} {ll : List (Value × (Addr → Value → Option Addr → TS))} (tk : Takes X W) (hE : EX X.K X.mg xs)
    (hb : ∀ (W' : WX) (pn : List (Addr × Obj)) (xe : Value → Shared → Prop), Takes (X.tr pn xe) W' → PassesOwn (model X.prog X.w) X.A X.env xe → PSsD (X.tr pn xe) W' wr body g) (hh : HsD X wrh (h₀ :: hds) l ll)
    (hs : X.stack = X.env :: X.outer := by rfl) (hf : X.env.frame = some X.env.locals := by rfl) : PSD X W (wr ++ wrh) (.Try body (h₀ :: hds) [] [] pos) (tryO xs g l) :=
  (ps_try_many (tb := fun W' => tS X.K X.mg W' wr g) hs hf tk (fun W' pn xe t p => hb W' pn xe t p) hh.hds).wk fun Dd σ H ⟨G0, H0, G, ρ, ok, q⟩ => by
    refine ⟨G0, H0, G, ρ, ok, ?_⟩
    unfold tryO at q
    have mono : ∀ i, i ∈ wr → i ∈ wr ++ wrh := fun i h => List.mem_append_left _ h
    cases eg : g ρ with
    | nx ρ2 => rw [eg] at q; exact PostS.later (W := wMany X.K W Dd ll) (o := .nx ρ2) (show PostS X.K X.mg _ G0 H0 (wr ++ wrh) σ ρ G (.nx ρ2) Dd from q) mono (.refl _) .refl
    | rt d => rw [eg] at q; exact q
    | bk ρ2 => rw [eg] at q; exact PostS.later (W := wMany X.K W Dd ll) (o := .bk ρ2) (show PostS X.K X.mg _ G0 H0 (wr ++ wrh) σ ρ G (.bk ρ2) Dd from q) mono (.refl _) .refl
    | ct ρ2 => rw [eg] at q; exact PostS.later (W := wMany X.K W Dd ll) (o := .ct ρ2) (show PostS X.K X.mg _ G0 H0 (wr ++ wrh) σ ρ G (.ct ρ2) Dd from q) mono (.refl _) .refl
    | ex x ρ1 =>
      rw [eg] at q
      exact fun c σ' G' H' m ok' sg fr => hd_post (K := X.K) (mg := X.mg) hE hh (fun i h => List.mem_append_right _ h) q m ok' sg (fr.mono mono)
    | no => rw [eg] at q; exact q
end
end TD

/-! TdEval: reckoning with the functions of data. -/
namespace TD
open PySem PySem.Spec PyProof.Rows L2
section
variable {ρ : EnvS} {f f' f3 : EnvS → R D} {g g' g3 : EnvS → R (List D)} {t t' : EnvS → R Bool} {o o' : EnvS → Out} {i j l : Nat} {k k' : D → D → R D}
def rtK (r : R D) (ρ : EnvS) : Out := r.out ρ fun d => .rt d
def exK (r : R D) (ρ : EnvS) : Out := r.out ρ fun _ => .nx ρ
def ifK (r : R Bool) (o o' : EnvS → Out) (ρ : EnvS) : Out := r.out ρ fun b => if b = true then o ρ else o' ρ
def stK (i : Nat) (r : R D) (ρ : EnvS) : Out := r.out ρ fun d => .nx (ρ.set i (some (.pu d)))
def owK (i : Nat) (r : R (List D)) (ρ : EnvS) : Out := r.out ρ fun d => .nx (ρ.set i (some (.ow d)))
def unK (r : R D) (h : D → EnvS → R EnvS) (ρ : EnvS) : Out := r.out ρ fun d => grd (h d ρ)
def parK (i j : Nat) (r : R (List D)) (ρ : EnvS) : Out := r.out ρ fun ds => match ds with
  | [a, b] => .nx ((ρ.set i (some (.pu a))).set j (some (.pu b)))
  | _ => .no
def par3K (i j l : Nat) (r : R (List D)) (ρ : EnvS) : Out := r.out ρ fun ds => match ds with
  | [a, b, c] => .nx (((ρ.set i (some (.pu a))).set j (some (.pu b))).set l (some (.pu c)))
  | _ => .no
def k2 (k : D → D → R D) (a b : R D) : R D := a.bind fun x => b.bind fun y => k x y
def notK (r : R Bool) : R Bool := r.bind fun b => .ok (!b)
def andK (r : R Bool) (t : EnvS → R Bool) (ρ : EnvS) : R Bool := r.bind fun b => if b = true then t ρ else .ok false
def orK (r : R Bool) (t : EnvS → R Bool) (ρ : EnvS) : R Bool := r.bind fun b => if b = true then .ok true else t ρ
def andVK (r : R Bool) (t : EnvS → R D) (ρ : EnvS) : R D := r.bind fun b => if b = true then t ρ else .ok (.bool false)
def orVK (r : R Bool) (t : EnvS → R D) (ρ : EnvS) : R D := r.bind fun b => if b = true then .ok (.bool true) else t ρ
def notVK (r : R Bool) : R D := r.bind fun b => .ok (.bool !b)
def ifDK (r : R Bool) (f f' : EnvS → R D) (ρ : EnvS) : R D := r.bind fun b => if b = true then f ρ else f' ρ
def chK (c : R D) (k' : D → D → R D) (b : R D) (f3 : EnvS → R D) (ρ : EnvS) : R D := c.bind fun c => b.bind fun b => match c with
  | .bool true => (f3 ρ).bind fun d => k' b d
  | .bool false => .ok (.bool false)
  | _ => .no
def cnK (a : R D) (as : R (List D)) : R (List D) := a.bind fun a => as.bind fun as => .ok (a :: as)
def tuK (g : R (List D)) : R D := g.bind fun as => if lineOk as.length then .ok (.tuple as) else .no
def nwK (g : R (List D)) : R (List D) := g.bind fun as => if lineOk as.length then .ok as else .no
def lsK (g : R (List D)) : R D := g.bind fun ds => .ok (.list ds)
def alK (f : R D) : R (List D) := f.bind fun d => match d with
  | .list ds => .ok ds
  | _ => .no
def smK (f : R D) : R (Option Int) := f.bind fun d => match d with
  | .int i => .ok (some i)
  | _ => .no
def slK (f : R D) (h h' : R (Option Int)) : R D := f.bind fun d => h.bind fun lo => h'.bind fun hi => match d with
  | .tuple ds => .ok (.tuple (cutD ds lo hi))
  | .list ds => .ok (.list (cutD ds lo hi))
  | .str z => if lineOk z.length then .ok (.str (cutS z lo hi)) else .no
  | _ => .no
def slLK (g : R (List D)) (h h' : R (Option Int)) : R (List D) := g.bind fun ds => h.bind fun lo => h'.bind fun hi => .ok (cutD ds lo hi)
def caK (g g' : R (List D)) : R (List D) := g.bind fun a => g'.bind fun b => if lineOk (a.length + b.length) then .ok (a ++ b) else .no
def ixLK (g : R (List D)) (f : R D) : R D := g.bind fun ds => f.bind fun i => ixD (.list ds) i
def cuK (n : Nat) (F : List D → R D) (g : R (List D)) : R D := g.bind fun as => if as.length = n then F as else .no
def sqK (f : R D) : R (List D) := f.bind fun d => match d with
  | .list ds => .ok ds
  | .tuple ds => .ok ds
  | .str x => if lineOk x.length then .ok (x.cps.toList.map fun c => .str ⟨#[c]⟩) else .no
  | _ => .no
def loK (g : R (List D)) (h : D → EnvS → R EnvS) (o : EnvS → Out) (ρ : EnvS) : Out := g.out ρ fun ds => forO h o ds ρ
def lcK (g : R (List D)) (h : D → EnvS → R EnvS) (t : EnvS → R Bool) (f : EnvS → R D) (vs : List Nat) (ρ : EnvS) : R (List D) := g.bind fun ds => if lineOk ds.length then compO h t f ds (wipeS ρ vs) else .no
def reK (g : R (List D)) (f : R D) : R (List D) := g.bind fun ds => f.bind fun d => match d with
  | .int k => if decide (0 ≤ k ∧ k < 100000) && lineOk (ds.length * k.toNat) then .ok (List.replicate k.toNat ds).flatten else .no
  | _ => .no
def inK (neg : Bool) (f : R D) (g : R (List D)) : R D := f.bind fun a => g.bind fun ds => if okD a && okD (.list ds) then .ok (.bool (if neg then !ds.any fun z => PyData.eqv z a else ds.any fun z => PyData.eqv z a)) else .no
def rgK (f : R D) : R (List D) := f.bind fun d => match d with
  | .int i => if rngOk i then .ok (rngD 0 i.toNat) else .no
  | _ => .no
def cgK (h : R EnvS) (h' : List D → EnvS → R EnvS) (ds : List D) : R EnvS := h.bind fun ρ1 => h' ds ρ1
def appK (i : Nat) (x : Option (Option Sl)) (r : R D) (ρ : EnvS) : Out := match x with
  | some (some (.ow ds)) => r.out ρ fun d => if lineOk (ds.length + 1) then .nx (ρ.set i (some (.ow (ds ++ [d])))) else .no
  | _ => .no
def tryK (xs : List Str) (r : Out) (hs : List (Str × (EnvS → Out))) : Out := match r with
  | .ex x ρ1 => hdO xs x ρ1 hs
  | o => o
def fnK (r : Out) : R D := match r with
  | .rt d => .ok d
  | .nx _ => .ok .none
  | .ex x _ => .ex x
  | _ => .no
theorem fnR_ap {n : Nat} {ds : List D} : fnR n o ds = fnK (o (argS n ds)) := rfl
@[simp] theorem fnK_rt {d : D} : fnK (.rt d) = .ok d := rfl
@[simp] theorem fnK_nx : fnK (.nx ρ) = .ok .none := rfl
@[simp] theorem fnK_ex {x : Str} : fnK (.ex x ρ) = .ex x := rfl
@[simp] theorem tryO_ap {xs : List Str} {hs : List (Str × (EnvS → Out))} : tryO xs o hs ρ = tryK xs (o ρ) hs := rfl
@[simp] theorem tryK_ex {xs : List Str} {x : Str} {hs : List (Str × (EnvS → Out))} : tryK xs (.ex x ρ) hs = hdO xs x ρ hs := rfl
@[simp] theorem tryK_nx {xs : List Str} {hs : List (Str × (EnvS → Out))} : tryK xs (.nx ρ) hs = .nx ρ := rfl
@[simp] theorem tryK_rt {xs : List Str} {d : D} {hs : List (Str × (EnvS → Out))} : tryK xs (.rt d) hs = .rt d := rfl
@[simp] theorem sqO_ap : sqO o o' ρ = (o ρ).seq o' := rfl
@[simp] theorem nxO_ap : nxO ρ = .nx ρ := rfl
@[simp] theorem rtO_ap : rtO f ρ = rtK (f ρ) ρ := rfl
@[simp] theorem rtK_ok {d : D} : rtK (.ok d) ρ = .rt d := rfl
@[simp] theorem rtK_ex {x : Str} : rtK (.ex x) ρ = .ex x ρ := rfl
@[simp] theorem exO_ap : exO f ρ = exK (f ρ) ρ := rfl
@[simp] theorem exK_ok {d : D} : exK (.ok d) ρ = .nx ρ := rfl
@[simp] theorem exK_ex {x : Str} : exK (.ex x) ρ = .ex x ρ := rfl
@[simp] theorem ifO_ap : ifO t o o' ρ = ifK (t ρ) o o' ρ := rfl
@[simp] theorem ifK_t : ifK (.ok true) o o' ρ = o ρ := rfl
@[simp] theorem ifK_f : ifK (.ok false) o o' ρ = o' ρ := rfl
@[simp] theorem ifK_ex {x : Str} : ifK (.ex x) o o' ρ = .ex x ρ := rfl
@[simp] theorem stO_ap : stO i f ρ = stK i (f ρ) ρ := rfl
@[simp] theorem stK_ok {d : D} : stK i (.ok d) ρ = .nx (ρ.set i (some (.pu d))) := rfl
@[simp] theorem stK_ex {x : Str} : stK i (.ex x) ρ = .ex x ρ := rfl
@[simp] theorem owO_ap : owO i g ρ = owK i (g ρ) ρ := rfl
@[simp] theorem owK_ok {d : List D} : owK i (.ok d) ρ = .nx (ρ.set i (some (.ow d))) := rfl
@[simp] theorem unO_ap {h : D → EnvS → R EnvS} : unO f h ρ = unK (f ρ) h ρ := rfl
@[simp] theorem unK_ok {d : D} {h : D → EnvS → R EnvS} : unK (.ok d) h ρ = grd (h d ρ) := rfl
@[simp] theorem grd_ok : grd (.ok ρ) = .nx ρ := rfl
@[simp] theorem parO_ap : parO i j g ρ = parK i j (g ρ) ρ := rfl
@[simp] theorem parK_ok {a b : D} : parK i j (.ok [a, b]) ρ = .nx ((ρ.set i (some (.pu a))).set j (some (.pu b))) := rfl
@[simp] theorem par3O_ap : par3O i j l g ρ = par3K i j l (g ρ) ρ := rfl
@[simp] theorem par3K_ok {a b c : D} : par3K i j l (.ok [a, b, c]) ρ = .nx (((ρ.set i (some (.pu a))).set j (some (.pu b))).set l (some (.pu c))) := rfl
@[simp] theorem set_nil {x : Option Sl} : List.set ([] : EnvS) i x = [] := rfl
@[simp] theorem varD_zero {d : D} {r : EnvS} : varD 0 (some (.pu d) :: r) = .ok d := rfl
@[simp] theorem varD_succ {x : Option Sl} {r : EnvS} : varD (i + 1) (x :: r) = varD i r := rfl
@[simp] theorem ownD_zero {d : List D} {r : EnvS} : ownD 0 (some (.ow d) :: r) = .ok d := rfl
@[simp] theorem ownD_succ {x : Option Sl} {r : EnvS} : ownD (i + 1) (x :: r) = ownD i r := rfl
@[simp] theorem cD_ap {d : D} : cD d ρ = .ok d := rfl
@[simp] theorem asF_ap : asF f ρ = asB (f ρ) := rfl
@[simp] theorem asB_ok {b : Bool} : asB (.ok (.bool b)) = .ok b := rfl
@[simp] theorem asB_ex {x : Str} : asB (.ex x) = .ex x := rfl
@[simp] theorem bin2_ap : bin2 k f f' ρ = k2 k (f ρ) (f' ρ) := rfl
@[simp] theorem k2_ok {a b : D} : k2 k (.ok a) (.ok b) = k a b := rfl
@[simp] theorem k2_ex {x : Str} {b : R D} : k2 k (.ex x) b = .ex x := rfl
@[simp] theorem k2_ex2 {a : D} {x : Str} : k2 k (.ok a) (.ex x) = .ex x := rfl
@[simp] theorem un1_ap {k : D → R D} : un1 k f ρ = (f ρ).bind k := rfl
@[simp] theorem notB_ap : notB t ρ = notK (t ρ) := rfl
@[simp] theorem notK_ok {b : Bool} : notK (.ok b) = .ok (!b) := rfl
@[simp] theorem notK_ex {x : Str} : notK (.ex x) = .ex x := rfl
@[simp] theorem andB_ap : andB t t' ρ = andK (t ρ) t' ρ := rfl
@[simp] theorem andK_t : andK (.ok true) t ρ = t ρ := rfl
@[simp] theorem andK_f : andK (.ok false) t ρ = .ok false := rfl
@[simp] theorem orB_ap : orB t t' ρ = orK (t ρ) t' ρ := rfl
@[simp] theorem orK_t : orK (.ok true) t ρ = .ok true := rfl
@[simp] theorem orK_f : orK (.ok false) t ρ = t ρ := rfl
@[simp] theorem andV_ap : andV f f' ρ = andVK (asB (f ρ)) f' ρ := rfl
@[simp] theorem andVK_t : andVK (.ok true) f ρ = f ρ := rfl
@[simp] theorem andVK_f : andVK (.ok false) f ρ = .ok (.bool false) := rfl
@[simp] theorem orV_ap : orV f f' ρ = orVK (asB (f ρ)) f' ρ := rfl
@[simp] theorem orVK_t : orVK (.ok true) f ρ = .ok (.bool true) := rfl
@[simp] theorem orVK_f : orVK (.ok false) f ρ = f ρ := rfl
@[simp] theorem notV_ap : notV f ρ = notVK (asB (f ρ)) := rfl
@[simp] theorem notVK_ok {b : Bool} : notVK (.ok b) = .ok (.bool !b) := rfl
@[simp] theorem ifD_ap : ifD t f f' ρ = ifDK (t ρ) f f' ρ := rfl
@[simp] theorem ifDK_t : ifDK (.ok true) f f' ρ = f ρ := rfl
@[simp] theorem ifDK_f : ifDK (.ok false) f f' ρ = f' ρ := rfl
theorem chD_ap : chD k k' f f' f3 ρ = chK (k2 k (f ρ) (f' ρ)) k' (f' ρ) f3 ρ := by
  unfold chD chK k2
  cases f ρ <;> cases f' ρ <;> rfl
@[simp] theorem chK_t {b : D} : chK (.ok (.bool true)) k' (.ok b) f3 ρ = k2 k' (.ok b) (f3 ρ) := rfl
@[simp] theorem chK_f {b : D} : chK (.ok (.bool false)) k' (.ok b) f3 ρ = .ok (.bool false) := rfl
@[simp] theorem nilA_ap : nilA ρ = .ok [] := rfl
@[simp] theorem consA_ap : consA f g ρ = cnK (f ρ) (g ρ) := rfl
@[simp] theorem cnK_ok {a : D} {as : List D} : cnK (.ok a) (.ok as) = .ok (a :: as) := rfl
@[simp] theorem cnK_ex {x : Str} {r : R (List D)} : cnK (.ex x) r = .ex x := rfl
@[simp] theorem cnK_ex2 {a : D} {x : Str} : cnK (.ok a) (.ex x) = .ex x := rfl
@[simp] theorem tupD_ap : tupD g ρ = tuK (g ρ) := rfl
@[simp] theorem tuK_0 : tuK (.ok []) = .ok (.tuple []) := rfl
@[simp] theorem tuK_1 {a : D} : tuK (.ok [a]) = .ok (.tuple [a]) := rfl
@[simp] theorem tuK_2 {a b : D} : tuK (.ok [a, b]) = .ok (.tuple [a, b]) := rfl
@[simp] theorem tuK_3 {a b c : D} : tuK (.ok [a, b, c]) = .ok (.tuple [a, b, c]) := rfl
@[simp] theorem tuK_4 {a b c d : D} : tuK (.ok [a, b, c, d]) = .ok (.tuple [a, b, c, d]) := rfl
@[simp] theorem tuK_ex {x : Str} : tuK (.ex x) = .ex x := rfl
@[simp] theorem newD_ap : newD g ρ = nwK (g ρ) := rfl
@[simp] theorem nwK_0 : nwK (.ok []) = .ok [] := rfl
@[simp] theorem lstF_ap : lstF g ρ = lsK (g ρ) := rfl
@[simp] theorem lsK_ok {ds : List D} : lsK (.ok ds) = .ok (.list ds) := rfl
@[simp] theorem asLF_ap : asLF f ρ = alK (f ρ) := rfl
@[simp] theorem alK_ok {ds : List D} : alK (.ok (.list ds)) = .ok ds := rfl
@[simp] theorem noP_ap : noP ρ = .ok none := rfl
@[simp] theorem someP_ap : someP f ρ = smK (f ρ) := rfl
@[simp] theorem smK_ok {a : Int} : smK (.ok (.int a)) = .ok (some a) := rfl
@[simp] theorem slcG_ap {h h' : EnvS → R (Option Int)} : slcG f h h' ρ = slK (f ρ) (h ρ) (h' ρ) := rfl
@[simp] theorem slK_t {ds : List D} {lo hi : Option Int} : slK (.ok (.tuple ds)) (.ok lo) (.ok hi) = .ok (.tuple (cutD ds lo hi)) := rfl
@[simp] theorem slK_l {ds : List D} {lo hi : Option Int} : slK (.ok (.list ds)) (.ok lo) (.ok hi) = .ok (.list (cutD ds lo hi)) := rfl
theorem slK_s {z : Str} {lo hi : Option Int} : slK (.ok (.str z)) (.ok lo) (.ok hi) = if lineOk z.length then .ok (.str (cutS z lo hi)) else .no := rfl
@[simp] theorem slcL_ap {h h' : EnvS → R (Option Int)} : slcL g h h' ρ = slLK (g ρ) (h ρ) (h' ρ) := rfl
@[simp] theorem slLK_ok {ds : List D} {lo hi : Option Int} : slLK (.ok ds) (.ok lo) (.ok hi) = .ok (cutD ds lo hi) := rfl
@[simp] theorem catL_ap : catL g g' ρ = caK (g ρ) (g' ρ) := rfl
@[simp] theorem ixL_ap : ixL g f ρ = ixLK (g ρ) (f ρ) := rfl
@[simp] theorem ixLK_ok {ds : List D} {d : D} : ixLK (.ok ds) (.ok d) = ixD (.list ds) d := rfl
@[simp] theorem callF_ap {k : List D → R D} : callF k g ρ = (g ρ).bind k := rfl
@[simp] theorem callN_ap {k : List D → R (List D)} : callN k g ρ = (g ρ).bind k := rfl
@[simp] theorem callU_ap {n : Nat} {F : List D → R D} : callU n F g ρ = cuK n F (g ρ) := rfl
@[simp] theorem cuK_0 {F : List D → R D} : cuK 0 F (.ok []) = F [] := rfl
@[simp] theorem cuK_1 {F : List D → R D} {a : D} : cuK 1 F (.ok [a]) = F [a] := rfl
@[simp] theorem cuK_2 {F : List D → R D} {a b : D} : cuK 2 F (.ok [a, b]) = F [a, b] := rfl
@[simp] theorem cuK_3 {F : List D → R D} {a b c : D} : cuK 3 F (.ok [a, b, c]) = F [a, b, c] := rfl
@[simp] theorem cuK_ex {n : Nat} {F : List D → R D} {x : Str} : cuK n F (.ex x) = .ex x := rfl
@[simp] theorem yesB_ap : yesB ρ = .ok true := rfl
@[simp] theorem seqF_ap : seqF f ρ = sqK (f ρ) := rfl
@[simp] theorem sqK_l {ds : List D} : sqK (.ok (.list ds)) = .ok ds := rfl
@[simp] theorem sqK_t {ds : List D} : sqK (.ok (.tuple ds)) = .ok ds := rfl
theorem sqK_s {x : Str} : sqK (.ok (.str x)) = if lineOk x.length then .ok (x.cps.toList.map fun c => .str ⟨#[c]⟩) else .no := rfl
@[simp] theorem loO_ap {h : D → EnvS → R EnvS} : loO g h o ρ = loK (g ρ) h o ρ := rfl
@[simp] theorem loK_ok {h : D → EnvS → R EnvS} {ds : List D} : loK (.ok ds) h o ρ = forO h o ds ρ := rfl
@[simp] theorem lcF_ap {h : D → EnvS → R EnvS} {vs : List Nat} : lcF g h t f vs ρ = lcK (g ρ) h t f vs ρ := rfl
theorem lcK_ok {h : D → EnvS → R EnvS} {vs : List Nat} {ds : List D} (hl : lineOk ds.length = true) : lcK (.ok ds) h t f vs ρ = compO h t f ds (wipeS ρ vs) := if_pos hl
@[simp] theorem repL_ap : repL g f ρ = reK (g ρ) (f ρ) := rfl
@[simp] theorem inL_ap {neg : Bool} : inL neg f g ρ = inK neg (f ρ) (g ρ) := rfl
@[simp] theorem rng1F_ap : rng1F f ρ = rgK (f ρ) := rfl
@[simp] theorem nmG_ap {d : D} : nmG i d ρ = .ok (ρ.set i (some (.pu d))) := rfl
@[simp] theorem tupG2_ap {h : List D → EnvS → R EnvS} {a b : D} : tupG 2 h (.tuple [a, b]) ρ = h [a, b] ρ := rfl
@[simp] theorem consG_ap {h : D → EnvS → R EnvS} {h' : List D → EnvS → R EnvS} {d : D} {ds : List D} : consG h h' (d :: ds) ρ = cgK (h d ρ) h' ds := rfl
@[simp] theorem cgK_ok {h' : List D → EnvS → R EnvS} {ds : List D} : cgK (.ok ρ) h' ds = h' ds ρ := rfl
@[simp] theorem nilG_ap : nilG [] ρ = .ok ρ := rfl
@[simp] theorem wipeS_nil : wipeS ρ [] = ρ := rfl
@[simp] theorem wipeS_cons {v : Nat} {vs : List Nat} : wipeS ρ (v :: vs) = (wipeS ρ vs).set v none := rfl
theorem isiD_ap {T : String} : isiD T f ρ = (f ρ).bind fun d => match d with
  | .dict _ => .no
  | d => match kitB (tyName d) T with
    | some b => .ok (.bool b)
    | none => .no := rfl
def isiK (T : String) (d : D) : R D := match d with
  | .dict _ => .no
  | d => match kitB (tyName d) T with
    | some b => .ok (.bool b)
    | none => .no
@[simp] theorem isiD_ap' {T : String} : isiD T f ρ = (f ρ).bind (isiK T) := rfl
@[simp] theorem appO_ap : appO i f ρ = appK i ρ[i]? (f ρ) ρ := by
  unfold appO appK
  generalize ρ[i]? = x
  rcases x with _ | (_ | (d | d)) <;> rfl
theorem appK_ok {d : D} {ds : List D} (h : lineOk (ds.length + 1) = true) : appK i (some (some (.ow ds))) (.ok d) ρ = .nx (ρ.set i (some (.ow (ds ++ [d])))) := if_pos h
end
/-! ### the primitive functions at their kinds -/
@[simp] theorem addD_int {a b : Int} : addD (.int a) (.int b) = .ok (.int (a + b)) := rfl
@[simp] theorem addD_str {a b : Str} : addD (.str a) (.str b) = if lineOk (a.length + b.length) then .ok (.str (a ++ b)) else .no := rfl
@[simp] theorem subD_int {a b : Int} : subD (.int a) (.int b) = .ok (.int (a - b)) := rfl
theorem mulD_int {a b : Int} : mulD (.int a) (.int b) = if mulOk a b then .ok (.int (a * b)) else .no := rfl
theorem fdivD_int {a b : Int} : fdivD (.int a) (.int b) = if divOk b then .ok (.int (a.fdiv b)) else .no := rfl
theorem modD_int {a b : Int} : modD (.int a) (.int b) = if decide (b ≠ 0) then .ok (.int (a.fmod b)) else .no := rfl
@[simp] theorem negD_int {a : Int} : negD (.int a) = .ok (.int (-a)) := rfl
@[simp] theorem ltD_int {a b : Int} : ltD (.int a) (.int b) = .ok (.bool (decide (a < b))) := rfl
@[simp] theorem leD_int {a b : Int} : leD (.int a) (.int b) = .ok (.bool (decide (a ≤ b))) := rfl
@[simp] theorem gtD_int {a b : Int} : gtD (.int a) (.int b) = .ok (.bool (decide (b < a))) := rfl
@[simp] theorem geD_int {a b : Int} : geD (.int a) (.int b) = .ok (.bool (decide (b ≤ a))) := rfl
@[simp] theorem absK_int {a : Int} : absK [.int a] = .ok (.int (if a < 0 then -a else a)) := rfl
@[simp] theorem intG_int {a : Int} : intG [.int a] = .ok (.int a) := rfl
@[simp] theorem lenK_list {ds : List D} : lenK [.list ds] = .ok (.int ds.length) := rfl
@[simp] theorem lenK_tuple {ds : List D} : lenK [.tuple ds] = .ok (.int ds.length) := rfl
@[simp] theorem tupK_list {ds : List D} : tupK [.list ds] = .ok (.tuple ds) := rfl
@[simp] theorem tupK_tuple {ds : List D} : tupK [.tuple ds] = .ok (.tuple ds) := rfl
@[simp] theorem ixT0 {a : D} {r : List D} : ixD (.tuple (a :: r)) (.int 0) = .ok a := rfl
@[simp] theorem ixT1 {a b : D} {r : List D} : ixD (.tuple (a :: b :: r)) (.int 1) = .ok b := rfl
@[simp] theorem ixT2 {a b c : D} {r : List D} : ixD (.tuple (a :: b :: c :: r)) (.int 2) = .ok c := rfl
@[simp] theorem ixT3 {a b c d : D} {r : List D} : ixD (.tuple (a :: b :: c :: d :: r)) (.int 3) = .ok d := rfl
@[simp] theorem ixT4 {a b c d e : D} {r : List D} : ixD (.tuple (a :: b :: c :: d :: e :: r)) (.int 4) = .ok e := rfl
@[simp] theorem ixL0 {a : D} {r : List D} : ixD (.list (a :: r)) (.int 0) = .ok a := rfl
@[simp] theorem ixL1 {a b : D} {r : List D} : ixD (.list (a :: b :: r)) (.int 1) = .ok b := rfl
theorem ixD_list_nat {ds : List D} {n : Nat} {d : D} (h : ds[n]? = some d) : ixD (.list ds) (.int (n : Int)) = .ok d := by
  show optR (atD ds (n : Int)) = _
  unfold atD
  rw [if_pos (Int.natCast_nonneg n), Int.toNat_natCast, h]
  rfl
theorem ixD_tuple_nat {ds : List D} {n : Nat} {d : D} (h : ds[n]? = some d) : ixD (.tuple ds) (.int (n : Int)) = .ok d := by
  show optR (atD ds (n : Int)) = _
  unfold atD
  rw [if_pos (Int.natCast_nonneg n), Int.toNat_natCast, h]
  rfl
/-! ### kinds -/
theorem kit_tt : kitB "tuple" "tuple" = some true := by decide +kernel
theorem kit_it : kitB "int" "tuple" = some false := by decide +kernel
theorem kit_bt : kitB "bool" "tuple" = some false := by decide +kernel
theorem kit_st : kitB "str" "tuple" = some false := by decide +kernel
theorem kit_nt : kitB "NoneType" "tuple" = some false := by decide +kernel
theorem kit_lt : kitB "list" "tuple" = some false := by decide +kernel
theorem kit_ti : kitB "tuple" "int" = some false := by decide +kernel
theorem kit_ii : kitB "int" "int" = some true := by decide +kernel
theorem kit_bi : kitB "bool" "int" = some true := by decide +kernel
theorem kit_si : kitB "str" "int" = some false := by decide +kernel
theorem kit_ni : kitB "NoneType" "int" = some false := by decide +kernel
theorem kit_li : kitB "list" "int" = some false := by decide +kernel
theorem kit_tb : kitB "tuple" "bool" = some false := by decide +kernel
theorem kit_ib : kitB "int" "bool" = some false := by decide +kernel
theorem kit_bb : kitB "bool" "bool" = some true := by decide +kernel
theorem kit_sb : kitB "str" "bool" = some false := by decide +kernel
theorem kit_nb : kitB "NoneType" "bool" = some false := by decide +kernel
theorem kit_lb : kitB "list" "bool" = some false := by decide +kernel
theorem kit_ts : kitB "tuple" "str" = some false := by decide +kernel
theorem kit_is : kitB "int" "str" = some false := by decide +kernel
theorem kit_bs : kitB "bool" "str" = some false := by decide +kernel
theorem kit_ss : kitB "str" "str" = some true := by decide +kernel
theorem kit_ns : kitB "NoneType" "str" = some false := by decide +kernel
theorem kit_ls : kitB "list" "str" = some false := by decide +kernel
section
variable {ρ : EnvS} {f : EnvS → R D}
def isT : D → Bool | .tuple _ => true | _ => false
def isI : D → Bool | .int _ => true | .bool _ => true | _ => false
def isB : D → Bool | .bool _ => true | _ => false
def isS : D → Bool | .str _ => true | _ => false
def isDict : D → Bool | .dict _ => true | _ => false
theorem isi_tuple {d : D} (h : f ρ = .ok d) (hd : isDict d = false) : isiD "tuple" f ρ = .ok (.bool (isT d)) := by
  rw [isiD_ap, h]; cases d <;> first | (cases hd; done) | (simp only [R.bind, tyName, kit_tt, kit_it, kit_bt, kit_st, kit_nt, kit_lt, isT])
theorem isi_int {d : D} (h : f ρ = .ok d) (hd : isDict d = false) : isiD "int" f ρ = .ok (.bool (isI d)) := by
  rw [isiD_ap, h]; cases d <;> first | (cases hd; done) | (simp only [R.bind, tyName, kit_ti, kit_ii, kit_bi, kit_si, kit_ni, kit_li, isI])
theorem isi_bool {d : D} (h : f ρ = .ok d) (hd : isDict d = false) : isiD "bool" f ρ = .ok (.bool (isB d)) := by
  rw [isiD_ap, h]; cases d <;> first | (cases hd; done) | (simp only [R.bind, tyName, kit_tb, kit_ib, kit_bb, kit_sb, kit_nb, kit_lb, isB])
theorem isi_str {d : D} (h : f ρ = .ok d) (hd : isDict d = false) : isiD "str" f ρ = .ok (.bool (isS d)) := by
  rw [isiD_ap, h]; cases d <;> first | (cases hd; done) | (simp only [R.bind, tyName, kit_ts, kit_is, kit_bs, kit_ss, kit_ns, kit_ls, isS])
end
/-! ### loops -/
theorem forO_inv {h : D → EnvS → R EnvS} {gb : EnvS → Out} (Inv : Nat → EnvS → Prop) : ∀ (ds : List D) (n : Nat) (ρ : EnvS), Inv n ρ →
    (∀ i d ρ, ds[i]? = some d → Inv (n + i) ρ → ∃ ρ1 ρ2, h d ρ = .ok ρ1 ∧ (gb ρ1 = .nx ρ2 ∨ gb ρ1 = .ct ρ2) ∧ Inv (n + i + 1) ρ2) → ∃ ρ', forO h gb ds ρ = .nx ρ' ∧ Inv (n + ds.length) ρ'
  | [], n, ρ, h0, _ => ⟨ρ, rfl, h0⟩
  | d :: ds, n, ρ, h0, step => by
    obtain ⟨ρ1, ρ2, e1, e2, i2⟩ := step 0 d ρ rfl h0
    obtain ⟨ρ', e3, i3⟩ := forO_inv Inv ds (n + 1) ρ2 i2 fun i d' ρ' hd hi => by
      have := step (i + 1) d' ρ' (by simpa using hd) (by rw [show n + (i + 1) = n + 1 + i by omega]; exact hi)
      rw [show n + (i + 1) + 1 = n + 1 + i + 1 by omega] at this
      exact this
    refine ⟨ρ', ?_, by rw [show n + (d :: ds).length = n + 1 + ds.length by rw [List.length_cons]; omega]; exact i3⟩
    unfold forO
    rw [e1]
    rcases e2 with e2 | e2 <;> (dsimp only; rw [e2]; exact e3)
theorem forO_inv0 {h : D → EnvS → R EnvS} {gb : EnvS → Out} (Inv : Nat → EnvS → Prop) {ds : List D} {ρ : EnvS} (h0 : Inv 0 ρ)
    (step : ∀ i d ρ, ds[i]? = some d → Inv i ρ → ∃ ρ1 ρ2, h d ρ = .ok ρ1 ∧ (gb ρ1 = .nx ρ2 ∨ gb ρ1 = .ct ρ2) ∧ Inv (i + 1) ρ2) : ∃ ρ', forO h gb ds ρ = .nx ρ' ∧ Inv ds.length ρ' := by
  obtain ⟨ρ', e, i⟩ := forO_inv Inv ds 0 ρ h0 (fun i d ρ hd hi => by rw [Nat.zero_add] at hi ⊢; exact step i d ρ hd hi)
  exact ⟨ρ', e, by rw [Nat.zero_add] at i; exact i⟩
/-- a comprehension without a test -/
theorem compO_map {h : D → EnvS → R EnvS} {fe : EnvS → R D} {ρ : EnvS} (F : D → D) : ∀ (ds : List D), (∀ d ∈ ds, ∃ ρ1, h d ρ = .ok ρ1 ∧ fe ρ1 = .ok (F d)) → compO h yesB fe ds ρ = .ok (ds.map F)
  | [], _ => rfl
  | d :: ds, hd => by
    obtain ⟨ρ1, e1, e2⟩ := hd d List.mem_cons_self
    unfold compO
    rw [e1]
    dsimp only [yesB]
    rw [e2, compO_map F ds fun d h => hd d (List.mem_cons_of_mem _ h)]
    rfl
theorem compO_filter {h : D → EnvS → R EnvS} {t : EnvS → R Bool} {fe : EnvS → R D} {ρ : EnvS} (F : D → D) (p : D → Bool) : ∀ (ds : List D), (∀ d ∈ ds, ∃ ρ1, h d ρ = .ok ρ1 ∧ t ρ1 = .ok (p d) ∧ (p d = true → fe ρ1 = .ok (F d))) → compO h t fe ds ρ = .ok ((ds.filter p).map F)
  | [], _ => rfl
  | d :: ds, hd => by
    obtain ⟨ρ1, e1, e2, e3⟩ := hd d List.mem_cons_self
    have ih := compO_filter F p ds fun d h => hd d (List.mem_cons_of_mem _ h)
    unfold compO
    rw [e1]
    dsimp only
    rw [e2]
    cases hp : p d with
    | true => dsimp only; rw [e3 hp, ih, List.filter_cons_of_pos hp]; rfl
    | false => dsimp only; rw [ih, List.filter_cons_of_neg (by rw [hp]; exact Bool.false_ne_true)]
end TD

/-! TdRem: xs.remove(x), xs.index(x) over data. -/
namespace TD
open PySem PySem.Spec PyProof.Rows L2
def firstEq (ds : List D) (d : D) : Option Nat := ds.findIdx? fun z => PyData.eqv z d
theorem firstEq_some {ds : List D} {d : D} {j : Nat} (h : firstEq ds d = some j) : ∃ z, ds[j]? = some z ∧ PyData.eqv z d = true ∧ ∀ (m : Nat) (z' : D), m < j → ds[m]? = some z' → PyData.eqv z' d = false := by
  unfold firstEq at h
  obtain ⟨hj, h1, h2⟩ := List.findIdx?_eq_some_iff_getElem.mp h
  refine ⟨ds[j], List.getElem?_eq_getElem hj, h1, fun m z' hm hz => ?_⟩
  obtain ⟨hm', e⟩ := List.getElem?_eq_some_iff.mp hz
  have := h2 m hm
  rw [e] at this
  simpa using this
def rRemD (K : PySem.W.Frag) : V → List V → Hp → VK → Prop := fun x ys H Q => ∃ (a : Addr) (y : V) (d : PyData) (xs : List V) (ds : List PyData) (j : Nat) (z : PyData), x = V.ref a ∧ ys = [y] ∧ H a = some (.lst xs) ∧ DpAll K H xs ds ∧ Dp K H y d ∧
  SeqAt.shaped (.list ds) = true ∧ SeqAt.shaped d = true ∧ ds[j]? = some z ∧ PyData.eqv z d = true ∧ (∀ (m : Nat) (z' : PyData), m < j → ds[m]? = some z' → PyData.eqv z' d = false) ∧ Q .non (upd H a (.lst (xs.eraseIdx j)))
section
variable {X : Cx} {W : WX}
theorem mt_remD (hu : X.A.units + 65 < cLine) : MtR X "list.remove" (rRemD X.K) := by
  intro pins s σ H x xs v us Q I rx rxs h
  obtain ⟨a, y, d, ys, ds, j, z, rfl, rfl, hl, ha, hy, sl, sd, hz, hzj, hno, q⟩ := h
  cases rx
  cases rxs with
  | cons ry rt =>
    rename_i uy ut
    cases rt
    obtain ⟨bs, r1⟩ := Dp.reads I d y uy hy ry
    have hxs : PyData.canLayAll0 ds = true := SeqAt.canLay_of_shaped sl
    have hroom : X.A.units + 1 + min (PyData.depthAll ds) d.depth < cLine := room_in_shaped sd hu
    obtain ⟨hsz, its, n, rv, hlen, ho⟩ := I.lstM hl
    obtain ⟨as, h4⟩ := Dp.readsAll I ds _ its ha rv
    have hn : its.length = ds.length := SeqAt.ReadsAll.length ds its as h4
    have hmap : its.map (SeqAt.readOf s.heap) = ds := SeqAt.readsAll_map ds its as hxs h4
    have hsl := sizeLine_eq
    obtain ⟨hjd, _⟩ := List.getElem?_eq_some_iff.mp hz
    have hjl : j < its.length := by omega
    have hj : j < its.toArray.size := by simpa using hjl
    have at_ : ∀ (m : Nat) (hm : m < its.toArray.size) (z' : PyData), ds[m]? = some z' → SeqAt.readOf s.heap its.toArray[m] = z' := by
      intro m hm z' hz'
      have hml : m < its.length := by simpa using hm
      rw [← hmap, List.getElem?_map, List.getElem?_eq_getElem hml] at hz'
      have e1 : SeqAt.readOf s.heap its[m] = z' := Option.some.inj (show some (SeqAt.readOf s.heap its[m]) = some z' from hz')
      simpa using e1
    refine call_meets PySem.F.slot_list_remove ⟨_, ho, rfl⟩ PySem.F.entry_list_remove (PySem.F.args_list_remove_2 _ _)
      (SeqAt.list_removeAt a its.toArray n none #[] uy (fun u => PyData.eqv (SeqAt.readOf s.heap u) d) j hj ?_ ?_ (by rw [List.size_toArray]; omega)) ⟨ho, SeqAt.items_eqAt (vs := its.toArray) (show ReadsAll s.heap its.toArray.toList ds as from h4) r1 hxs (SeqAt.canLay_of_shaped sd) hroom, ?_⟩
    · show PyData.eqv (SeqAt.readOf s.heap its.toArray[j]) d = true
      rw [at_ j hj z hz]
      exact hzj
    · intro m hm hmj
      have hmd : m < ds.length := by omega
      have hz' : ds[m]? = some ds[m] := List.getElem?_eq_getElem hmd
      show PyData.eqv (SeqAt.readOf s.heap its.toArray[m]) d = false
      rw [at_ m hm _ hz']
      exact hno m _ hmj hz'
    · refine ⟨.non, _, I.lset (its' := its.eraseIdx j) hl ho ?_ (rv.eraseIdx j) ?_, rfl, q⟩
      · show its.toArray.eraseIdxIfInBounds j = (its.eraseIdx j).toArray
        rw [List.eraseIdxIfInBounds_toArray]
      · have := List.length_eraseIdx_le ys j
        omega
def remO (i : Nat) (f : EnvS → R D) : EnvS → Out := fun ρ => match ρ[i]? with
  | some (some (.ow ds)) => (f ρ).out ρ fun d => if okD d && okD (.list ds) then (match firstEq ds d with
    | some j => .nx (ρ.set i (some (.ow (ds.eraseIdx j))))
    | none => .no) else .no
  | _ => .no
theorem RpAll.erase {K : PySem.W.Frag} {G : Hp} : ∀ {xs : List V} {ds : List D} (j : Nat), RpAll K G xs ds → RpAll K G (xs.eraseIdx j) (ds.eraseIdx j)
  | _, _, _, .nil => .nil
  | _, _, 0, .cons _ r => r
  | _, _, j + 1, .cons a r => .cons a (RpAll.erase j r)
theorem s_rem (i : Nat) (hu : X.A.units + 65 < cLine) {x : Str} {e : Expr} {p apos cpos pos : Pos} {f : EnvS → R D} (he : PD X W e f) (hN : X.N[i]? = some x := by rfl) (hv : Vis X.env.scope x := by first | exact Or.inl rfl | exact Or.inr (Or.inl rfl) | exact Or.inr (Or.inr rfl)) (hd : (x == ("__debug__" : Str)) = false := by decide)
    (hcd : (x == ("__classdict__" : Str)) = false := by decide)
    (hbase : attributeBase (.Name x p) "remove" X.env (eval (.Name x p) X.env) = eval (.Name x p) X.env := by rfl)
    (hfew : ((backTo cpos (starEach [e] X.env)).all (fun x => !x.1) && (backToKw cpos (keywordEach [] X.env)).all (fun x => x.1.isSome)
      && decide ([e].length + ([] : List Keyword).length + (if ([] : List Keyword).isEmpty then 0 else 1) < 30)) = true := by rfl)
    (hline : (apos.endLine == cpos.line) = true := by rfl) (hs : starEach [e] X.env = (false, eval e X.env) :: starEach [] X.env := by rfl)
    (hsw : swapsWith (.Call (.Attribute (.Name x p) "remove" apos) [e] [] cpos) none pos.line X.env = pure false := by rfl) :
    PSD X W [i] (.Expr (.Call (.Attribute (.Name x p) "remove" apos) [e] [] cpos) pos) (remO i f) :=
  (ps_expr (pe_bm PySem.F.plainAttrs_list PySem.F.slot_list_remove PySem.F.type_list_remove (mt_remD hu) (pe_var hN hv hd hcd) (pa_cons he pa_nil hs) hbase hfew hline hs rfl) hsw).wk fun Dd σ H ⟨G0, H0, G, ρ, ok, q⟩ => by
    unfold remO at q
    split at q
    · rename_i ds hi
      obtain ⟨a, xs, h1, h2, n1, r1⟩ := ok.env.ow i ds hi
      refine ⟨_, h1, .inl ⟨rfl, xs, SqL.of h2⟩, outE q ok fun d v G1 H1 _ e1 rd ok1 q1 => ?_⟩
      split at q1
      · rename_i hk
        rw [Bool.and_eq_true] at hk
        split at q1
        · rename_i j hj
          obtain ⟨z, hz, hzj, hno⟩ := firstEq_some hj
          have hh := e1.hh _ _ h2
          refine ⟨a, v, d, xs, ds, j, z, rfl, rfl, hh, RpAll.dp ds xs ((r1.up e1.gg).up ok1.ext.sub) (by simpa [PyData.canLay0] using okD_can hk.2), Rp.dp _ _ (Rp.up rd ok1.ext.sub) (okD_can hk.1), hk.2, hk.1, hz, hzj, hno, ?_⟩
          exact q1 σ G1 _ (ok1.mut hi h1 ((r1.up e1.gg).erase j)) (.refl _) fun j hj => ⟨rfl, List.getElem?_set_ne (fun z => hj (by rw [z]; exact List.mem_singleton_self _))⟩
        · exact q1.elim
      · exact q1.elim
    · exact q.elim
end
end TD

/-! TdEnum: enumerate of a tuple. -/
namespace TD
open PySem PySem.Spec PyProof.Rows L2
theorem meets_enumT (l : Addr) (items : Array Value) (n : Nat) (dct : Option Addr) (sl : Array (Option Value)) :
    Meets (Builtin.«enumerate.__new__» ⟨[.type "enumerate", .ref l], []⟩) (fun _ R s => s.heap.get? l = some { cls := .type "tuple", dict := dct, data := .seq items n, slots := sl } ∧
      R (.ok (.ret (.ref (s.heap.push { cls := .type "tuple_iterator", data := .fields #[.ref l, .int 0 0] }).objs.size)))
        { s with heap := (s.heap.push { cls := .type "tuple_iterator", data := .fields #[.ref l, .int 0 0] }).push { cls := .type "enumerate", data := .fields #[.none, .bool false, .ref s.heap.objs.size, rawInt 0, .none, .none] } }) :=
  .of_wp fun prog w A R s h => by
    obtain ⟨hp, g, d, tk, os⟩ := s; obtain ⟨hl, h⟩ := h
    have hsub := sub_enumerate
    have hL : Heap.IsTuple (Shared.heap ⟨hp, g, d, tk, os⟩) l items := ⟨_, hl, rfl, n, rfl⟩
    wp_walk using AutoSeq1.wpAny_loadPart' hl
    refine wpAny_stack_any fun st => wpAny_pure ?_
    split
    · rename_i c _ _ _ _ _
      cases (c == Value.type "enumerate")
      · wp_walk using AutoSeq1.wpAny_loadPart' hl, wpAny_pyIter_tuple hL
        exact ⟨_, rfl, h⟩
      · wp_walk using AutoSeq1.wpAny_loadPart' hl, wpAny_pyIter_tuple hL
        exact ⟨_, rfl, h⟩
    · wp_walk using AutoSeq1.wpAny_loadPart' hl, wpAny_pyIter_tuple hL
      exact ⟨_, rfl, h⟩
section
variable {prog : Program} {w : World} {A : Around} {E : Value → Shared → Prop} {s : Shared}
theorem call_enumT {l : Addr} {items : Array Value} {Q : Value → Shared → Prop} (hL : s.heap.IsTuple l items)
    (h : ∀ h', IsEnum h' (s.heap.objs.size + 1) s.heap.objs.size 0 .none → h'.IsTupleIter s.heap.objs.size l 0 → h'.objs.size = s.heap.objs.size + 2 →
      (∀ b o, s.heap.get? b = some o → h'.get? b = some o) → Q (.ref (s.heap.objs.size + 1)) { s with heap := h' }) :
    wpAny (model prog w) A (call (.type "enumerate") [.ref l]) Q E s := by
  obtain ⟨⟨c, dct, dt, sl⟩, hl, hc, n, hd⟩ := hL
  replace hc : c = .type "tuple" := hc
  replace hd : dt = .seq items n := hd
  subst hc hd
  refine callType_new F.called_enumerate (by decide) (F.typeCall_enumerate_1 _) (F.newCall_enumerate_1 _) (fun obj => F.args_object_init_2 obj _) F.entry_enumerate_new
    (meets_enumT l items n dct sl) ⟨hl, ?_⟩
  have hz : (s.heap.push { cls := .type "tuple_iterator", data := .fields #[.ref l, .int 0 0] }).objs.size = s.heap.objs.size + 1 := Heap.size_push ..
  show _ ∧ _
  rw [hz]
  have he : IsEnum ((s.heap.push { cls := .type "tuple_iterator", data := .fields #[.ref l, .int 0 0] }).push
      { cls := .type "enumerate", data := .fields #[.none, .bool false, .ref s.heap.objs.size, rawInt 0, .none, .none] }) (s.heap.objs.size + 1) s.heap.objs.size 0 .none := by
    have := Heap.get?_push_size (s.heap.push { cls := .type "tuple_iterator", data := .fields #[.ref l, .int 0 0] })
      (o := { cls := .type "enumerate", data := .fields #[.none, .bool false, .ref s.heap.objs.size, rawInt 0, .none, .none] }) rfl
    rw [hz] at this; exact this
  refine ⟨⟨_, he, rfl⟩, h _ he ⟨_, Heap.get?_push_of_some _ (Heap.get?_push_size _ rfl), rfl, rfl⟩ (by rw [Heap.size_push, hz]) fun b o x => Heap.get?_push_of_some _ (Heap.get?_push_of_some _ x)⟩
end
def ItT (K : PySem.W.Frag) (a : Addr) : It :=
  ⟨fun i H => ∃ (xs : List V) (x : V), SqT K H a xs ∧ xs[i]? = some x, fun i H v H' => ∃ T x, v = .ref T ∧ H T = none ∧ H' = upd H T (.tup [.int (i : Nat), x]) ∧ ∀ xs, SqT K H a xs → xs[i]? = some x, fun i H => ∃ xs : List V, SqT K H a xs ∧ xs.length ≤ i⟩
theorem tuple_ne {h : Heap} {a it e : Addr} {items : Array Value} {i : Nat} {c : Int} {old : Value} (p : h.IsTuple a items) (hi : h.IsTupleIter it a i) (he : IsEnum h e it c old) : a ≠ it ∧ e ≠ a := by
  obtain ⟨o, ho, hc, _⟩ := p
  constructor
  · intro z
    subst z
    obtain ⟨o2, h2, c2, _⟩ := hi
    rw [ho] at h2
    cases h2
    rw [hc] at c2
    injection c2 with c3
    exact absurd c3 (by decide)
  · intro z
    subst z
    have h2 : h.get? e = some _ := he
    rw [ho] at h2
    cases h2
    injection hc with c3
    exact absurd c3 (by decide)
theorem turn_enumT {P : Program} {w : World} {K : PySem.W.Frag} {elts : List Expr} {kk : Nat} {tpos : Pos} (a e it : Addr) :
    Turn P w K (.Tuple elts kk tpos) (ItT K a) [e, it] e (fun i h => (∃ old, IsEnum h e it ((i : Nat) : Int) old) ∧ h.IsTupleIter it a i ∧ e ≠ it) where
  mem := by simp
  obj := fun i h st b hb => by
    obtain ⟨⟨old, he⟩, ⟨o, ho, hc, hd⟩, _⟩ := st
    have e' : b = e ∨ b = it := by simpa using hb
    rcases e' with z | z
    · rw [z]; exact ⟨_, he, fun v q => nomatch q⟩
    · rw [z]; exact ⟨o, ho, fun v q => by rw [hd] at q; cases q⟩
  keep := fun i h h' st k => let ⟨⟨old, he⟩, hi, hne⟩ := st; ⟨⟨old, k e (by simp) _ he⟩, hi.at fun o q => k it (by simp) o q, hne⟩
  item := by
    intro X hP hw hK hc i pins s σ H E I hf st hg
    subst hP hw hK
    obtain ⟨⟨old, he⟩, hit, hne⟩ := st
    obtain ⟨xs, x, hq, hx⟩ := hg
    obtain ⟨its, rv, p, hz⟩ := I.tuple hq
    obtain ⟨u, hu, ru⟩ := rv.get hx
    have hel : e < s.heap.objs.size := Heap.lt_size he
    have hil : it < s.heap.objs.size := by obtain ⟨_, q, _⟩ := hit; exact Heap.lt_size q
    have p' : s.heap.IsTuple a its.toArray := p
    obtain ⟨hai, hea⟩ := tuple_ne p' hit he
    have hui : its.toArray[i]? = some u := by simpa using hu
    have hlt : i < its.toArray.size := (Array.getElem?_eq_some_iff.mp hui).1
    have D := Draws.tuple (prog := X.prog) (w := X.w) (A := X.A.in1) (show X.A.in1.handled = none from I.ok.hd hc) it a hai its.toArray
    refine wpAny_pyNext_enum_itemD D he ⟨hit, p'⟩ hlt hne (by simp [hne, hea]) fun u' h' tk hP ho hit' hT hsz hk => ?_
    have huu : u' = u := by rw [hui] at hP; exact (Option.some.inj hP).symm
    subst huu
    refine ⟨_, rfl, wpAny_letOwnedTupleGo_enum (s := { s with heap := h', toks := tk + 1 }) ho fun h'' he' sb => ?_⟩
    have hT2 : h''.get? s.heap.objs.size = some { cls := .type "tuple", data := .seq #[.int i tk, u'] } := (sb.2 _ (Nat.ne_of_gt hel)).trans hT
    have new : ObjOk X.prog X.w (upd H s.heap.objs.size (.tup [.int (i : Nat), x])) h'' s.heap.objs.size (.tup [.int (i : Nat), x]) :=
      ⟨by show 2 ≤ sizeLine; decide, [.int i tk, u'], .cons ⟨_, rfl⟩ (.cons ru .nil), ⟨_, hT2, rfl, _, rfl⟩⟩
    have I1 : Inv X pins σ (upd H s.heap.objs.size (.tup [.int (i : Nat), x])) { s with heap := h'', toks := tk + 1 } :=
      I.turnedNew (ch := [e, it]) (fun b ob hb q => (sb.2 b (fun z => hb (by simp [z]))).trans (hk b ob (fun z => hb (by simp [z])) (fun z => hb (by simp [z])) q)) hf (Nat.le_refl _) new
    refine ⟨.ref s.heap.objs.size, _, I1, rfl, ⟨_, x, rfl, I.hok.fresh (Nat.le_refl _), rfl, fun ys hy => by rw [I.tuple_inj hy hq]; exact hx⟩, ⟨⟨u', ?_⟩, hit'.1.at fun o q => (sb.2 it (Ne.symm hne)).trans q, hne⟩, fun b hb => ?_⟩
    · have e1 : ((i + 1 : Nat) : Int) = (i : Int) + 1 := by omega
      rw [e1]; exact he'
    · have hb' : b < s.heap.objs.size := by
        have e' : b = e ∨ b = it := by simpa using hb
        rcases e' with z | z
        · rw [z]; exact hel
        · rw [z]; exact hil
      rw [upd_ne (Nat.ne_of_lt hb')]
      exact (hf b hb).1
  done := by
    intro X hP hw hK hc i pins s σ H E I hf st hg
    subst hP hw hK
    obtain ⟨⟨old, he⟩, hit, hne⟩ := st
    obtain ⟨xs, hq, hx⟩ := hg
    obtain ⟨its, rv, p, hz⟩ := I.tuple hq
    obtain ⟨f0, f1, f2, f3, f4, f5⟩ := hf it (by simp)
    have hl := rv.length
    have p' : s.heap.IsTuple a its.toArray := p
    obtain ⟨hai, hea⟩ := tuple_ne p' hit he
    -- the end: through the iterator itself
    have hTy : s.TypeIs (.ref e) "enumerate" := ⟨_, he, rfl⟩
    unfold pyNext
    refine wpAny_bind (wpAny_attempt (wpAny_callSpecial?_slot (name := Str.ofString "__next__") hTy F.slot_enumerate_next
      (wpAny_call_entry F.slot_enumerate_next hTy F.entry_enumerate_next ?_ (F.args_enumerate_next_1 _))))
    show wpAny _ _ (field (.ref e) 2 >>= _) _ _ _
    refine wpAny_bind (wpAny_field he rfl (x := .ref it) rfl ?_)
    refine wpAny_bind (wpAny_nextOf_tuple_end (I.ok.hd hc) hit p' (by simp; omega) fun h' x he' hx' => ?_)
    obtain ⟨o, ho, hc2⟩ := hx'
    refine wpAny_bind (wpAny_isInstance (T := "StopIteration") (b := true) ⟨o, ho, hc2⟩ isSubtype_stop ?_)
    exact wpAny_pure ⟨rfl, I.turned (t' := s.toks) (fun b o hb q => he' b o hb q) f0 f1 f3 f4 f5⟩
  self := fun A i s Q E st h => let ⟨⟨_, he⟩, _⟩ := st; wpAny_pyIter_enum he h
def iEnumA (K : PySem.W.Frag) (ta : TA) : TI := fun σ H R => ta σ H fun vs H1 => ∃ a xs, vs = [.ref a] ∧ ((SqL K H1 a xs ∧ R (Ite K a) H1) ∨ (SqT K H1 a xs ∧ R (ItT K a) H1))
theorem pi_enumA {X : Cx} {e : Expr} {ta : TA} {p pos tpos : Pos} {elts : List Expr} {kk : Nat} (hg : Gl X "enumerate") (hm : X.mg "enumerate" = none) (ha : PA X [e] ta) (hs : starEach [e] X.env = [(false, eval e X.env)] := by rfl) :
    PI X (.Tuple elts kk tpos) (.Call (.Name "enumerate" p) [e] [] pos) (iEnumA X.K ta) := by
  refine ⟨fun pins s σ H R I h => ?_⟩
  refine Call_ (ld_blt I hg hm boot_enumerate (PyProof.Rows.callWith_type1 (thn (ha.run pos pins s σ H _ I h) fun us s1 ⟨vs, H1, I1, r1, q1⟩ => ?_) hs rfl))
  obtain ⟨a, xs, ex, hq⟩ := q1
  subst ex
  cases r1 with
  | cons r rr =>
    cases rr
    cases r
    have hle : ∀ b, b = s1.heap.objs.size + 1 ∨ b = s1.heap.objs.size → s1.heap.objs.size ≤ b := fun b e' => by
      rcases e' with z | z
      · rw [z]; exact Nat.le_add_right _ _
      · rw [z]; exact Nat.le_refl _
    rcases hq with ⟨hq, q⟩ | ⟨hq, q⟩
    · obtain ⟨its, rv, p', hz⟩ := I1.list hq
      refine call_enumerate_list p'.isList fun h' he hit hsz hk => wpAny_pyIter_enum he ?_
      have I2 : Inv X pins σ H1 { s1 with heap := h' } := I1.kept (t' := s1.toks) hk
      refine ⟨s1.heap.objs.size + 1, [s1.heap.objs.size + 1, s1.heap.objs.size], _, _, H1, rfl, I2, turn_enum a (s1.heap.objs.size + 1) s1.heap.objs.size, ⟨⟨.none, he⟩, hit, Nat.succ_ne_self _⟩, fun b hb => ?_, q⟩
      have hle := hle b (by simpa using hb)
      exact I1.fpOk hle (I1.hok.fresh hle)
    · obtain ⟨its, rv, p', hz⟩ := I1.tuple hq
      refine call_enumT (show s1.heap.IsTuple a its.toArray from p') fun h' he hit hsz hk => wpAny_pyIter_enum he ?_
      have I2 : Inv X pins σ H1 { s1 with heap := h' } := I1.kept (t' := s1.toks) hk
      refine ⟨s1.heap.objs.size + 1, [s1.heap.objs.size + 1, s1.heap.objs.size], _, _, H1, rfl, I2, turn_enumT a (s1.heap.objs.size + 1) s1.heap.objs.size, ⟨⟨.none, he⟩, hit, Nat.succ_ne_self _⟩, fun b hb => ?_, q⟩
      have hle := hle b (by simpa using hb)
      exact I1.fpOk hle (I1.hok.fresh hle)
theorem walk_enumT {K : PySem.W.Frag} {G : Hp} {a : Addr} {xs : List V} {ds : List D} (h : SqT K G a xs) (r : RpAll K G xs ds) : Walk K (ItT K a) G (enumFrom 0 ds) := by
  refine ⟨fun i d G2 H2 hd e1 e2 => ?_, fun i d x G2 H2 H3 hd e1 e2 hy => ?_, fun G2 H2 e1 e2 => ⟨xs, TD.Same.seqT (e1.trans e2) h, by rw [r.length, enumFrom_len]; exact Nat.le_refl _⟩⟩
  · obtain ⟨e, he, _⟩ := enumFrom_get ds 0 i d hd
    obtain ⟨v, hv, _⟩ := r.get he
    exact ⟨xs, v, TD.Same.seqT (e1.trans e2) h, hv⟩
  · obtain ⟨e, he, rfl⟩ := enumFrom_get ds 0 i d hd
    obtain ⟨T, y, rfl, hT, rfl, hy⟩ := hy
    obtain ⟨v, hv, rv⟩ := r.get he
    have := hy xs (TD.Same.seqT (e1.trans e2) h)
    rw [hv] at this
    cases this
    have ex := Ext.new (o := .tup [.int (i : Nat), y]) e2 hT
    rw [Nat.zero_add]
    exact ⟨_, ex, .tup (SqT.of upd_same) (.cons (.int _) (.one ((rv.up e1).up ex.gg)))⟩
def enuA (f : EnvS → R D) : EnvS → R (List D) := fun ρ => (f ρ).bind fun d => match d with
  | .list ds => .ok (enumFrom 0 ds)
  | .tuple ds => .ok (enumFrom 0 ds)
  | _ => .no
section
variable {X : Cx} {W : WX} {pos : Pos}
theorem i_enumA {a : Expr} {p tpos : Pos} {elts : List Expr} {kk : Nat} {f : EnvS → R D} (hm : X.mg "enumerate" = none) (ha : PD X W a f) (hg : Gl X "enumerate" := by rfl) (hs : starEach [a] X.env = (false, eval a X.env) :: starEach [] X.env := by rfl) : PID X W (.Tuple elts kk tpos) (.Call (.Name "enumerate" p) [a] [] pos) (enuA f) :=
  (pi_enumA hg hm (pa_cons ha pa_nil hs) hs).wk fun σ H Q ⟨G, ρ, hs, he, q⟩ => by
    unfold enuA at q
    refine seqP PostI.fin q hs he fun a v G1 H1 _ e1 r1 he1 q1 => ?_
    cases a with
    | list ds =>
      obtain ⟨a, xs, rfl, h1, g1, p1⟩ := r1.seqL e1.sub
      exact ⟨a, xs, rfl, .inl ⟨SqL.of h1, q1 _ G1 H1 (.refl e1.sub) (walk_enum g1 p1)⟩⟩
    | tuple ds =>
      obtain ⟨a, xs, rfl, h1, g1, p1⟩ := r1.seqT e1.sub
      exact ⟨a, xs, rfl, .inr ⟨h1, q1 _ G1 H1 (.refl e1.sub) (walk_enumT g1 p1)⟩⟩
    | _ => exact q1.elim
end
end TD

/-! TdSort: sorted of ints, of pairs of ints. -/
namespace TD
open PySem PySem.Spec PyProof.Rows L2
def rSortedPT (K : PySem.W.Frag) : List V → Hp → VK → Prop := fun vs H Q => ∃ (a : Addr) (xs : List V), vs = [V.ref a] ∧ SqL K H a xs ∧ (∀ x ∈ xs, ∃ (t : Addr) (z : Int × Int), x = V.ref t ∧ SqT K H t [.int z.1, .int z.2]) ∧
  ∀ (k : V → Int × Int) (ys : List V) (p : Addr), (∀ (t : Addr) (z : Int × Int), V.ref t ∈ xs → SqT K H t [.int z.1, .int z.2] → k (.ref t) = z) → SrtO.Srtd (ltP k) ys → ys.Perm xs → H p = none → Q (.ref p) (upd H p (.lst ys))
def intLe (a b : Int) : Bool := decide (a ≤ b)
def prLe (a b : Int × Int) : Bool := !SrtO.lexB b a
theorem prLe_iff {a b : Int × Int} : prLe a b = true ↔ a.1 < b.1 ∨ (a.1 = b.1 ∧ a.2 ≤ b.2) := by
  unfold prLe
  rw [Bool.not_eq_true', SrtO.lexB_no]
  omega
def pairOf : D → Option (Int × Int)
  | .tuple [.int a, .int b] => some (a, b)
  | _ => none
def pairsOf : List D → Option (List (Int × Int))
  | [] => some []
  | d :: r => match pairOf d, pairsOf r with
    | some p, some ps => some (p :: ps)
    | _, _ => none
def prD2 (p : Int × Int) : D := .tuple [.int p.1, .int p.2]
theorem pairOf_some {d : D} {p : Int × Int} (h : pairOf d = some p) : d = prD2 p := by
  unfold pairOf at h
  split at h
  · cases h; rfl
  · cases h
theorem pairsOf_some : ∀ {ds : List D} {ps : List (Int × Int)}, pairsOf ds = some ps → ds = ps.map prD2
  | [], _, h => by cases h; rfl
  | d :: r, ps, h => by
    unfold pairsOf at h
    split at h
    · rename_i p qs h1 h2
      cases h
      rw [List.map_cons, ← pairOf_some h1, ← pairsOf_some h2]
    · cases h
theorem pairsOf_map : ∀ ps : List (Int × Int), pairsOf (ps.map prD2) = some ps
  | [] => rfl
  | p :: ps => by
    rw [List.map_cons, pairsOf, pairsOf_map ps]
    rfl
def sortI (ns : List Int) : List Int := ns.mergeSort intLe
def sortP (ps : List (Int × Int)) : List (Int × Int) := ps.mergeSort prLe
theorem sortI_eq {ns ms : List Int} (h : ms.Perm ns) (hs : ms.Pairwise (· ≤ ·)) : ms = sortI ns := by
  have h1 : (sortI ns).Pairwise (· ≤ ·) := (List.pairwise_mergeSort (le := intLe) (fun a b c h1 h2 => by unfold intLe at *; simp only [decide_eq_true_eq] at *; omega) (fun a b => by unfold intLe; simp only [Bool.or_eq_true, decide_eq_true_eq]; omega) ns).imp fun h => of_decide_eq_true h
  exact List.Perm.eq_of_pairwise (le := (· ≤ ·)) (fun a b _ _ h1 h2 => Int.le_antisymm h1 h2) hs h1 (h.trans (List.mergeSort_perm ns intLe).symm)
theorem sortP_sorted (ps : List (Int × Int)) : (sortP ps).Pairwise fun a b => prLe a b = true :=
  List.pairwise_mergeSort (fun a b c h1 h2 => by rw [prLe_iff] at *; omega) (fun a b => by rw [Bool.or_eq_true, prLe_iff, prLe_iff]; omega) ps
theorem sortP_eq {ps qs : List (Int × Int)} (h : qs.Perm ps) (hs : qs.Pairwise fun a b => prLe a b = true) : qs = sortP ps :=
  List.Perm.eq_of_pairwise (le := fun a b => prLe a b = true) (fun a b _ _ h1 h2 => by rw [prLe_iff] at h1 h2; exact Prod.ext (by omega) (by omega)) hs (sortP_sorted ps) (h.trans (List.mergeSort_perm ps prLe).symm)
def sortK : List D → R (List D) := fun ds => match intsOf ds with
  | some ns => .ok ((sortI ns).map .int)
  | none => match pairsOf ds with
    | some ps => .ok ((sortP ps).map prD2)
    | none => .no
section
variable {X : Cx}
open Classical in
theorem cr_sortedPT : CallR X (.builtin "sorted") (rSortedPT X.K) := by
  intro pins s σ H vs us Q I r h
  obtain ⟨a, xs, rfl, hs, hx, q⟩ := h
  obtain ⟨its, rv, hl, hz⟩ := I.list hs
  obtain ⟨u, rfl, ru⟩ := vals1 r
  obtain rfl : u = Value.ref a := ru
  let k : V → Int × Int := fun x => if h : ∃ z : Int × Int, ∃ t, x = V.ref t ∧ SqT X.K H t [.int z.1, .int z.2] then Classical.choose h else (0, 0)
  have hk : ∀ (t : Addr) (z : Int × Int), SqT X.K H t [.int z.1, .int z.2] → k (.ref t) = z := fun t z ht => by
    have ex : ∃ z : Int × Int, ∃ t', V.ref t = V.ref t' ∧ SqT X.K H t' [.int z.1, .int z.2] := ⟨z, t, rfl, ht⟩
    have e : k (.ref t) = Classical.choose ex := dif_pos ex
    obtain ⟨t', e1, e2⟩ := Classical.choose_spec ex
    cases e1
    have e3 := I.tuple_inj e2 ht
    rw [e]
    injection e3 with e4 e5
    injection e5 with e6 _
    injection e4 with e4
    injection e6 with e6
    exact Prod.ext e4 e6
  obtain ⟨e1, e2⟩ := refs_back rv fun x m => by
    obtain ⟨t, _, e, _⟩ := hx x m
    exact ⟨t, e⟩
  refine SrtO.sorted_pairsO (k := fun u => k (backV u)) hl.isList (by rw [← rv.length]; exact hz) (fun v hv => ?_) fun h' d out h1 h2 kp hd hn => ?_
  · obtain ⟨t, rfl⟩ := e2 v hv
    have hm : V.ref t ∈ xs := by rw [e1]; exact List.mem_map.mpr ⟨_, hv, rfl⟩
    obtain ⟨t', z, e, ht⟩ := hx _ hm
    cases e
    obtain ⟨its2, r2, ⟨o, ho, hc, n, hd⟩, _⟩ := I.tuple ht
    obtain ⟨u1, u2, rfl, ri, rj⟩ := vals2 r2
    obtain ⟨t1, rfl⟩ := ri
    obtain ⟨t2, rfl⟩ := rj
    have ek : k (backV (.ref t)) = z := hk t z ht
    rw [ek]
    exact ⟨t, o, t1, t2, n, rfl, ho, hc, hd⟩
  · have h3 : ∀ u ∈ out, ∃ a, u = Value.ref a := fun u hu => e2 u (h2.perm.mem_iff.mp hu)
    obtain ⟨n, hn⟩ := hn
    have hb : (out.map backV).Perm xs := by rw [e1]; exact h2.perm.map backV
    refine ⟨.ref d, upd H d (.lst (out.map backV)), I.laid (t' := s.toks) kp hd ⟨?_, out, n, vals_back h3, hn⟩, rfl, q k _ d (fun t z _ ht => hk t z ht) (SrtO.srtd_map h1) hb (I.hok.fresh hd)⟩
    rw [hb.length_eq]
    exact hz
theorem cr_sortD : CallR X (.builtin "sorted") (fun xs H Q => rSortedI X.K xs H Q ∨ rSortedPT X.K xs H Q) := cr_sortedI.or cr_sortedPT
theorem RpAll.ofPairs {K : PySem.W.Frag} {G : Hp} : ∀ {xs : List V} {ps : List (Int × Int)}, RpAll K G xs (ps.map prD2) → ∀ x ∈ xs, ∃ (t : Addr) (z : Int × Int), x = V.ref t ∧ SqT K G t [.int z.1, .int z.2]
  | _, [], .nil, x, h => absurd h List.not_mem_nil
  | _, p :: ps, .cons a r, x, h => by
    rcases List.mem_cons.mp h with e | h
    · subst e
      obtain ⟨t, xs, rfl, _, h2, r2⟩ := Rp.seqT a (.refl G)
      cases r2 with
      | cons r3 r4 => cases r4 with
        | cons r5 r6 => cases r6; cases r3; cases r5; exact ⟨t, p, rfl, h2⟩
    · exact RpAll.ofPairs r x h
theorem RpAll.keys {K : PySem.W.Frag} {G : Hp} {k : V → Int × Int} : ∀ {xs : List V} {ps : List (Int × Int)}, RpAll K G xs (ps.map prD2) → (∀ (t : Addr) (z : Int × Int), V.ref t ∈ xs → SqT K G t [.int z.1, .int z.2] → k (.ref t) = z) → xs.map k = ps
  | _, [], .nil, _ => rfl
  | _, p :: ps, .cons a r, hk => by
    obtain ⟨t, xs, rfl, _, h2, r2⟩ := Rp.seqT a (.refl G)
    rw [List.map_cons, RpAll.keys r fun t z hm => hk t z (List.mem_cons_of_mem _ hm)]
    cases r2 with
    | cons r3 r4 => cases r4 with
      | cons r5 r6 => cases r6; cases r3; cases r5; rw [hk t p List.mem_cons_self h2]
theorem RpAll.fromKeys {K : PySem.W.Frag} {G : Hp} {k : V → Int × Int} : ∀ {ys : List V}, (∀ x ∈ ys, ∃ t, x = V.ref t ∧ SqT K G t [.int (k x).1, .int (k x).2]) → RpAll K G ys ((ys.map k).map prD2)
  | [], _ => .nil
  | y :: ys, h => by
    obtain ⟨t, rfl, ht⟩ := h y List.mem_cons_self
    exact .cons (.tup ht (.cons (.int _) (.one (.int _)))) (RpAll.fromKeys fun x hx => h x (List.mem_cons_of_mem _ hx))
theorem ln_sort : LstN X (fun xs H Q => rSortedI X.K xs H Q ∨ rSortedPT X.K xs H Q) sortK := by
  intro ds a xs G H Wx Q hs h r q
  unfold sortK at q
  split at q
  · rename_i ns e
    rw [intsOf_some e] at r
    refine .inl ⟨a, ns, rfl, ?_, fun ns' p hp hsd hf => ?_⟩
    · rw [← RpAll.of_ints r]
      exact SqL.of h
    · rw [sortI_eq hp hsd]
      exact q p _ G _ (Ext.newH hs hf) hf (hs.free hf) upd_same (RpAll.ints _)
  · split at q
    · rename_i ps e
      rw [pairsOf_some e] at r
      refine .inr ⟨a, xs, rfl, SqL.of h, fun x hx => ?_, fun k ys p hk hsd hp hf => ?_⟩
      · obtain ⟨t, z, rfl, ht⟩ := RpAll.ofPairs r x hx
        exact ⟨t, z, rfl, TD.Same.seqT hs ht⟩
      · have hk' : ∀ (t : Addr) (z : Int × Int), V.ref t ∈ xs → SqT X.K G t [.int z.1, .int z.2] → k (.ref t) = z := fun t z hm ht => hk t z hm (TD.Same.seqT hs ht)
        have e1 : xs.map k = ps := RpAll.keys r hk'
        have e2 : ys.map k = sortP ps := sortP_eq (by rw [← e1]; exact hp.map k) (List.pairwise_map.mpr (hsd.imp fun {x y} h => by
          show (!SrtO.lexB (k y) (k x)) = true
          rw [show SrtO.lexB (k y) (k x) = false from h]; rfl))
        have e3 : RpAll X.K G ys ((ys.map k).map prD2) := RpAll.fromKeys fun x hx => by
          have hx' := hp.mem_iff.mp hx
          obtain ⟨t, z, rfl, ht⟩ := RpAll.ofPairs r x hx'
          exact ⟨t, rfl, by rw [hk' t z hx' ht]; exact ht⟩
        rw [e2] at e3
        exact q p _ G _ (Ext.newH hs hf) hf (hs.free hf) upd_same e3
    · exact q.elim
end
end TD

/-! TdPt: tuples known to be plain; t.index(x). -/
namespace TD
open PySem PySem.Spec PyProof.Rows L2
/-- tuple(x) of a list: a new tuple, frozen -/
def rTupF (K : PySem.W.Frag) : List V → Hp → VK → Prop := fun vs H Q => ∃ (p : Addr) (xs : List V), vs = [.ref p] ∧ SqL K H p xs ∧ ∀ (q : Addr) (o : Obj), H q = none → o.cls = .type "tuple" → o.dict = none → Q (.ref q) (upd H q (.frz o (.tup xs)))
section
variable {X : Cx} {W : WX} {pos : Pos}
theorem cr_tupF : CallR X (.type "tuple") (rTupF X.K) := by
  intro pins s σ H vs us Q I r h
  obtain ⟨p, xs, rfl, hs, q⟩ := h
  obtain ⟨u, rfl, ru⟩ := vals1 r
  obtain rfl : u = Value.ref p := ru
  obtain ⟨its, rv, pl, hz⟩ := I.list hs
  refine call_tuple_list pl.isList (fun h' hk => ?_) (by rw [List.size_toArray, ← rv.length]; exact hz)
  have I1 : Inv X pins σ H { s with heap := h' } := I.kept (t' := s.toks) hk
  have I2 : Inv X pins σ (upd H h'.objs.size (.frz { cls := .type "tuple", data := .seq its.toArray } (.tup xs))) { s with heap := h'.push { cls := .type "tuple", data := .seq its.toArray } } :=
    I1.laid (t' := s.toks) (fun b o e => Heap.get?_push_of_some _ e) (Nat.le_refl _) (show ObjOk X.prog X.w _ _ _ (.frz _ (.tup xs)) from ⟨Heap.get?_push_size _ rfl, hz, its, rv, IsTup.new _ _⟩)
  exact ⟨.ref h'.objs.size, _, I2, rfl, q _ _ (I1.hok.fresh (Nat.le_refl _)) rfl rfl⟩
theorem ld_tupF : LstD X (rTupF X.K) (fun ds => .ok (ptD ds)) := by
  intro ds a xs G H Wx Q hs h r q
  refine ⟨a, xs, rfl, SqL.of h, fun l o hl hc hd => ?_⟩
  have e := Ext.new (o := .frz o (.tup xs)) hs hl
  exact q _ _ _ e (.plt upd_same hc hd (r.up e.gg))
def ptK : List D → R D := fun ds => match ds with
  | [.list xs] => .ok (ptD xs)
  | _ => .no
theorem cd_tupF : CallD X (rTupF X.K) ptK := by
  intro ds xs G H Wx Q hs rr q
  unfold ptK at q
  split at q
  · obtain ⟨v, rfl, r⟩ := rr.inv1
    obtain ⟨a, ys, rfl, h1, g1, p1⟩ := r.seqL hs
    refine ⟨a, ys, rfl, SqL.of h1, fun l o hl hc hd => ?_⟩
    have e := Ext.new (o := .frz o (.tup ys)) hs hl
    exact q _ _ _ e (.plt upd_same hc hd (p1.up e.gg))
  · exact q.elim
def dropK : D → R D
  | .dict [(.int 0, .tuple ds)] => .ok (.tuple ds)
  | _ => .no
theorem d_drop {e : Expr} {f : EnvS → R D} (h : PD X W e f) : PD X W e (un1 dropK f) := h.wk fun σ H Q ⟨G, ρ, hs, he, q⟩ => by
  unfold un1 at q
  refine Post.seq q hs he fun d v G1 H1 _ e1 r1 he1 q1 => ?_
  unfold dropK at q1
  split at q1
  · rename_i ds
    obtain ⟨a, o, xs, rfl, h1, h2, h3, h4⟩ := pt_inv r1
    exact q1.done e1.sub (.tup (.inl (.inr ⟨o, h1⟩)) h4)
  · exact q1.elim
def rTIdx (K : PySem.W.Frag) : V → List V → Hp → VK → Prop := fun x ys H Q => ∃ (a : Addr) (y : V) (d : PyData) (ds : List PyData) (j : Nat) (z : PyData), x = V.ref a ∧ ys = [y] ∧ Dp K H (V.ref a) (.tuple ds) ∧ Dp K H y d ∧
  SeqAt.shaped (.tuple ds) = true ∧ SeqAt.shaped d = true ∧ ds[j]? = some z ∧ PyData.eqv z d = true ∧ (∀ (m : Nat) (z' : PyData), m < j → ds[m]? = some z' → PyData.eqv z' d = false) ∧ Q (.int (j : Nat)) H
theorem mt_tidx (hu : X.A.units + 65 < cLine) : MtR X "tuple.index" (rTIdx X.K) := by
  intro pins s σ H x xs v us Q I rx rxs h
  obtain ⟨a, y, d, ds, j, z, rfl, rfl, hl, hy, sl, sd, hz, hzj, hno, q⟩ := h
  cases rx
  cases rxs with
  | cons ry rt =>
    rename_i uy ut
    cases rt
    obtain ⟨bs, r1⟩ := Dp.reads I d y uy hy ry
    have hxs : PyData.canLayAll0 ds = true := SeqAt.canLay_of_shaped sl
    have hroom : X.A.units + 1 + min (PyData.depthAll ds) d.depth < cLine := room_in_shaped sd hu
    cases hl with
    | tup hs ha =>
      obtain ⟨its, rv, ⟨⟨cls, dd, data, sls⟩, ho, hc, n, hdt⟩, hlen⟩ := I.tuple hs
      simp only at hc hdt
      subst hc hdt
      obtain ⟨as, h4⟩ := Dp.readsAll I ds _ its ha rv
      have hn : its.length = ds.length := SeqAt.ReadsAll.length ds its as h4
      have hmap : its.map (SeqAt.readOf s.heap) = ds := SeqAt.readsAll_map ds its as hxs h4
      have hvl := rv.length
      have hsl := sizeLine_eq
      obtain ⟨hjd, _⟩ := List.getElem?_eq_some_iff.mp hz
      have hjl : j < its.length := by omega
      have hj : j < its.toArray.size := by simpa using hjl
      have at_ : ∀ (m : Nat) (hm : m < its.toArray.size) (z' : PyData), ds[m]? = some z' → SeqAt.readOf s.heap its.toArray[m] = z' := by
        intro m hm z' hz'
        have hml : m < its.length := by simpa using hm
        rw [← hmap, List.getElem?_map, List.getElem?_eq_getElem hml] at hz'
        have e1 : SeqAt.readOf s.heap its[m] = z' := Option.some.inj (show some (SeqAt.readOf s.heap its[m]) = some z' from hz')
        simpa using e1
      refine call_meets PySem.F.slot_tuple_index ⟨_, ho, rfl⟩ PySem.F.entry_tuple_index (PySem.F.args_tuple_index_2 _ _)
        (_root_.TI.tuple_indexAt a its.toArray n dd sls uy (fun u => PyData.eqv (SeqAt.readOf s.heap u) d) j hj ?_ ?_) ⟨ho, SeqAt.items_eqAt (vs := its.toArray) (show ReadsAll s.heap its.toArray.toList ds as from h4) r1 hxs (SeqAt.canLay_of_shaped sd) hroom, ?_⟩
      · show PyData.eqv (SeqAt.readOf s.heap its.toArray[j]) d = true
        rw [at_ j hj z hz]
        exact hzj
      · intro m hm hmj
        have hmd : m < ds.length := by omega
        have hz' : ds[m]? = some ds[m] := List.getElem?_eq_getElem hmd
        show PyData.eqv (SeqAt.readOf s.heap its.toArray[m]) d = false
        rw [at_ m hm _ hz']
        exact hno m _ hmj hz'
      · exact ⟨.int (j : Nat), H, I.tok _, ⟨_, rfl⟩, q⟩
def tTIdx (K : PySem.W.Frag) (to te : TE) : TE := fun σ H Q => to σ H fun x H1 => (∃ (a : Addr) (o : Obj) (xs : List V), x = .ref a ∧ H1 a = some (.frz o (.tup xs)) ∧ o.cls = .type "tuple" ∧ o.dict = none) ∧ te σ H1 fun y H2 => rTIdx K x [y] H2 Q
theorem pe_tidx {o e : Expr} {to te : TE} {apos cpos : Pos} (hu : X.A.units + 65 < cLine) (ho : PE X o to) (he : PE X e te) (hbase : attributeBase o "index" X.env (eval o X.env) = eval o X.env := by rfl)
    (hfew : ((backTo cpos (starEach [e] X.env)).all (fun x => !x.1) && (backToKw cpos (keywordEach [] X.env)).all (fun x => x.1.isSome)
      && decide (([e] : List Expr).length + ([] : List Keyword).length + (if ([] : List Keyword).isEmpty then 0 else 1) < 30)) = true := by rfl)
    (hline : (apos.endLine == cpos.line) = true := by rfl) (hs : starEach [e] X.env = (false, eval e X.env) :: starEach [] X.env := by rfl) (hplain : (backTo cpos (starEach [] X.env)).any (·.1) = false := by rfl) :
    PE X (.Call (.Attribute o "index" apos) [e] [] cpos) (tTIdx X.K to te) := by
  refine ⟨fun pins s σ H Q I h => ?_⟩
  refine wpAny_Call_method_late hbase hfew hline rfl (thn (ho.run pins s σ H _ I h) fun v s1 ⟨x, H1, I1, r1, ty, q1⟩ => ?_)
  obtain ⟨a, ob, xs, rfl, hH, hoc, hod⟩ := ty
  obtain rfl : v = Value.ref a := r1
  obtain ⟨hg, _⟩ := I1.hok _ _ hH
  refine ⟨"tuple", _, PySem.F.plainAttrs_tuple, PySem.F.slot_tuple_index, PySem.F.type_tuple_index, ⟨ob, hg, hoc⟩, fun b e => by cases e; exact ⟨ob, hg, hod⟩, ?_⟩
  rw [hs]
  refine Calls.callWith_builtin (by show (false || (backTo cpos (starEach [] X.env)).any (·.1)) = false; rw [hplain] <;> rfl) (Calls.evalArgs_plain ?_)
  show wpAny _ _ (spliced ((false, eval e X.env) :: backTo cpos (starEach [] X.env))) _ _ s1
  refine Calls.spliced_cons (thn (he.run pins s1 σ H1 _ I1 q1) fun u s2 ⟨y, H2, I2, ry, q2⟩ => ?_)
  refine Calls.spliced_nil ?_
  exact mt_tidx hu pins s2 σ H2 (.ref a) [y] (.ref a) [u] Q I2 rfl (.cons ry .nil) q2
def ptOf : D → Option (List D)
  | .dict [(.int 0, .tuple ds)] => some ds
  | _ => none
theorem ptOf_some {d : D} {ds : List D} (h : ptOf d = some ds) : d = ptD ds := by
  unfold ptOf at h
  split at h
  · cases h; rfl
  · cases h
@[simp] theorem ptOf_pt (ds : List D) : ptOf (ptD ds) = some ds := rfl
def tindexD (ds : List D) (d : D) : R D := if okD d && okD (.tuple ds) then (match firstEq ds d with
    | some j => .ok (.int (j : Nat))
    | none => .no) else .no
def tixF (f g : EnvS → R D) : EnvS → R D := fun ρ => (f ρ).bind fun d => match ptOf d with
  | some ds => (g ρ).bind (tindexD ds)
  | none => .no
theorem d_tindex {o e : Expr} {f g : EnvS → R D} {apos cpos : Pos} (hu : X.A.units + 65 < cLine) (ho : PD X W o f) (he : PD X W e g) (hbase : attributeBase o "index" X.env (eval o X.env) = eval o X.env := by rfl)
    (hfew : ((backTo cpos (starEach [e] X.env)).all (fun x => !x.1) && (backToKw cpos (keywordEach [] X.env)).all (fun x => x.1.isSome)
      && decide (([e] : List Expr).length + ([] : List Keyword).length + (if ([] : List Keyword).isEmpty then 0 else 1) < 30)) = true := by rfl)
    (hline : (apos.endLine == cpos.line) = true := by rfl) (hs : starEach [e] X.env = (false, eval e X.env) :: starEach [] X.env := by rfl) (hplain : (backTo cpos (starEach [] X.env)).any (·.1) = false := by rfl) :
    PD X W (.Call (.Attribute o "index" apos) [e] [] cpos) (tixF f g) := (pe_tidx hu ho he hbase hfew hline hs hplain).wk fun σ H Q ⟨G, ρ, hs, he, q⟩ => by
  unfold tixF at q
  refine Post.seq q hs he fun d v G1 H1 _ e1 r1 he1 q1 => ?_
  split at q1
  · rename_i ds hd
    have hd' := ptOf_some hd
    subst hd'
    obtain ⟨a, o, xs, rfl, h1, h2, h3, h4⟩ := pt_inv r1
    refine ⟨⟨a, o, xs, rfl, e1.sub _ _ h1, h2, h3⟩, ?_⟩
    refine Post.seq q1 e1.sub he1 fun b u G2 H2 _ e2 r2 he2 q2 => ?_
    unfold tindexD at q2
    split at q2
    · rename_i hk
      rw [Bool.and_eq_true] at hk
      split at q2
      · rename_i j hj
        obtain ⟨z, hz, hzj, hno⟩ := firstEq_some hj
        have ht : Rp X.K H2 (.ref a) (.tuple ds) := (Rp.tup (.inl (.inr ⟨o, h1⟩)) h4).up (e2.gg.trans e2.sub)
        exact ⟨a, u, b, ds, j, z, rfl, rfl, Rp.dp _ _ ht (okD_can hk.2), Rp.dp _ _ (r2.up e2.sub) (okD_can hk.1), hk.2, hk.1, hz, hzj, hno, q2.done e2.sub (.int _)⟩
      · exact q2.elim
    · exact q2.elim
  · exact q1.elim
end
end TD

/-! TdRet: a return whose expression is given one's own lists: they are settled first. -/
namespace TD
open PySem PySem.Spec PyProof.Rows L2
def rtF (f : EnvS → R D) : EnvS → Out := fun ρ => match f (toF ρ) with
  | .ok d => .rt d
  | _ => .no
section
variable {X : Cx} {W : WX} {pos : Pos}
theorem s_retF {e : Expr} {f : EnvS → R D} (h : PD X W e f) : PSD X W [] (.Return (some e) pos) (rtF f) := (ps_ret h).wk fun Dd σ H ⟨G0, H0, G, ρ, ok, q⟩ => by
  classical
  have he := ok.env
  have hs := ok.ext.sub
  let own : Addr → Prop := fun p => ∃ (i : Nat) (ds : List D), ρ[i]? = some (some (.ow ds)) ∧ σ[i]? = some (some (V.ref p))
  have ownH : ∀ p, own p → G p = none ∧ ∃ vs, H p = some (.lst vs) := fun p ⟨i, ds, h1, h2⟩ => by
    obtain ⟨p', vs, z1, z2, z3, _⟩ := he.ow i ds h1
    rw [h2] at z1
    cases z1
    exact ⟨z3, vs, z2⟩
  let GF : Hp := fun p => if own p then H p else G p
  have gfO : ∀ p, own p → GF p = H p := fun p h => if_pos h
  have gfN : ∀ p, ¬ own p → GF p = G p := fun p h => if_neg h
  have sF : Same G GF := fun b o hb => by
    by_cases z : own b
    · rw [(ownH b z).1] at hb; cases hb
    · rw [gfN b z]; exact hb
  have sH : Same GF H := fun b o hb => by
    by_cases z : own b
    · rw [gfO b z] at hb; exact hb
    · rw [gfN b z] at hb; exact hs b o hb
  have envF : EnvE X.K GF H σ (toF ρ) := by
    refine ⟨fun i d hi => ?_, fun i ds hi => ?_, by unfold toF; rw [List.length_map]; exact he.len⟩
    · unfold toF at hi
      rw [List.getElem?_map] at hi
      cases ei : ρ[i]? with
      | none => rw [ei] at hi; cases hi
      | some o =>
        rw [ei] at hi
        cases o with
        | none => cases hi
        | some s =>
          cases s with
          | pu d' =>
            cases hi
            obtain ⟨v, h1, h2⟩ := he.pu i d ei
            exact ⟨v, h1, h2.up sF⟩
          | ow ds =>
            cases hi
            obtain ⟨p, vs, h1, h2, h3, h4⟩ := he.ow i ds ei
            exact ⟨_, h1, .lst (by rw [gfO p ⟨i, ds, ei, h1⟩]; exact h2) (h4.up sF)⟩
    · unfold toF at hi
      rw [List.getElem?_map] at hi
      cases ei : ρ[i]? with
      | none => rw [ei] at hi; cases hi
      | some o =>
        rw [ei] at hi
        cases o with
        | none => cases hi
        | some s => cases s <;> cases hi
  have extF : Ext G0 H0 GF H := ⟨sH, ok.ext.hh, fun b o hb => sF b o (ok.ext.gg b o hb), fun p h1 h2 => by
    by_cases z : own p
    · obtain ⟨i, ds, h3, h4⟩ := z
      exact ok.own i ds p h3 h4
    · exact ok.ext.fr p h1 (by rw [← gfN p z]; exact h2)⟩
  refine ⟨GF, toF ρ, sH, envF, ?_⟩
  unfold rtF at q
  cases ef : f (toF ρ) with
  | ok d =>
    rw [ef] at q
    exact fun v G1 H1 e1 r1 => q v G1 H1 (extF.trans e1) r1
  | ex x => rw [ef] at q; exact q.elim
  | no => rw [ef] at q; exact q.elim
end
end TD

/-! TdPop: xs.pop() of one's own list. -/
namespace TD
open PySem PySem.Spec PyProof.Rows L2
section
variable {X : Cx} {W : WX}
def popO (i : Nat) : EnvS → Out := fun ρ => match ρ[i]? with
  | some (some (.ow ds)) => if ds.isEmpty then .no else .nx (ρ.set i (some (.ow ds.dropLast)))
  | _ => .no
theorem s_pop (i : Nat) {x : Str} {p apos cpos pos : Pos} (hN : X.N[i]? = some x := by rfl) (hv : Vis X.env.scope x := by first | exact Or.inl rfl | exact Or.inr (Or.inl rfl) | exact Or.inr (Or.inr rfl)) (hd : (x == ("__debug__" : Str)) = false := by decide)
    (hcd : (x == ("__classdict__" : Str)) = false := by decide)
    (hbase : attributeBase (.Name x p) "pop" X.env (eval (.Name x p) X.env) = eval (.Name x p) X.env := by rfl)
    (hline : (apos.endLine == cpos.line) = true := by rfl)
    (hsw : swapsWith (.Call (.Attribute (.Name x p) "pop" apos) [] [] cpos) none pos.line X.env = pure false := by rfl) :
    PSD X W [i] (.Expr (.Call (.Attribute (.Name x p) "pop" apos) [] [] cpos) pos) (popO i) :=
  (ps_expr (pe_bm0 PySem.F.plainAttrs_list PySem.F.slot_list_pop PySem.F.type_list_pop mt_pop (pe_var hN hv hd hcd) hbase hline) hsw).wk fun Dd σ H ⟨G0, H0, G, ρ, ok, q⟩ => by
    unfold popO at q
    split at q
    · rename_i ds hi
      obtain ⟨a, xs, h1, h2, n1, r1⟩ := ok.env.ow i ds hi
      split at q
      · exact q.elim
      · rename_i he
        have hne : ds ≠ [] := fun z => he (by rw [z]; rfl)
        have hl : xs.length - 1 < xs.length := by
          have := List.length_pos_iff.mpr hne
          rw [← r1.length] at this
          omega
        refine ⟨_, h1, .inl ⟨rfl, xs, SqL.of h2⟩, a, xs, xs[xs.length - 1], rfl, rfl, h2, List.getElem?_eq_getElem hl, ?_⟩
        exact q σ G _ (ok.mut hi h1 r1.dropLast) (.refl _) fun j hj => ⟨rfl, List.getElem?_set_ne (fun z => hj (by rw [z]; exact List.mem_singleton_self _))⟩
    · exact q.elim
def popS (i j : Nat) : EnvS → Out := fun ρ => match ρ[i]? with
  | some (some (.ow ds)) => match ds[ds.length - 1]? with
    | some d => .nx ((ρ.set i (some (.ow ds.dropLast))).set j (some (.pu d)))
    | none => .no
  | _ => .no
theorem s_popS (i j : Nat) {x y : Str} {p apos cpos pos py : Pos} (hij : j ≠ i) (hnd : X.N.Nodup) (hN : X.N[i]? = some x := by rfl) (hj : X.N[j]? = some y := by rfl) (hy : Loc X.env.scope y := by first | exact Or.inl rfl | exact Or.inr rfl) (hv : Vis X.env.scope x := by first | exact Or.inl rfl | exact Or.inr (Or.inl rfl) | exact Or.inr (Or.inr rfl)) (hd : (x == ("__debug__" : Str)) = false := by decide)
    (hcd : (x == ("__classdict__" : Str)) = false := by decide)
    (hbase : attributeBase (.Name x p) "pop" X.env (eval (.Name x p) X.env) = eval (.Name x p) X.env := by rfl)
    (hline : (apos.endLine == cpos.line) = true := by rfl)
    (hs : swapsWith (.Call (.Attribute (.Name x p) "pop" apos) [] [] cpos) (some (.Name y py)) pos.line X.env = pure false := by rfl)
    (hf : X.fn y = true ∨ X.env.scope.names.lookup y = some .local := by first | exact .inl rfl | exact .inr rfl) :
    PSD X W [i, j] (.Assign [.Name y py] (.Call (.Attribute (.Name x p) "pop" apos) [] [] cpos) pos) (popS i j) :=
  (ps_set hnd hj hy (pe_bm0 PySem.F.plainAttrs_list PySem.F.slot_list_pop PySem.F.type_list_pop mt_pop (pe_var hN hv hd hcd) hbase hline) hs hf).wk fun Dd σ H ⟨G0, H0, G, ρ, ok, q⟩ => by
    unfold popS at q
    split at q
    · rename_i ds hi
      obtain ⟨a, xs, h1, h2, n1, r1⟩ := ok.env.ow i ds hi
      split at q
      · rename_i d he
        obtain ⟨v, hv2, rv⟩ := r1.get he
        refine ⟨_, h1, .inl ⟨rfl, xs, SqL.of h2⟩, a, xs, v, rfl, rfl, h2, by rw [r1.length]; exact hv2, ?_⟩
        have ok2 := ok.mut hi h1 r1.dropLast
        exact q _ G _ (ok2.put rv j) (.refl _) fun k hk => by
          have hk1 : k ≠ i := fun z => hk (by rw [z]; exact List.mem_cons_self)
          have hk2 : k ≠ j := fun z => hk (by rw [z]; exact List.mem_cons_of_mem _ List.mem_cons_self)
          exact ⟨List.getElem?_set_ne (Ne.symm hk2), by rw [List.getElem?_set_ne (Ne.symm hk2), List.getElem?_set_ne (Ne.symm hk1)]⟩
      · exact q.elim
    · exact q.elim
def popU (i : Nat) (h : D → EnvS → R EnvS) : EnvS → Out := fun ρ => match ρ[i]? with
  | some (some (.ow ds)) => match ds[ds.length - 1]? with
    | some d => grd (h d (ρ.set i (some (.ow ds.dropLast))))
    | none => .no
  | _ => .no
theorem s_popU (i : Nat) {wr : List Nat} {tg : Expr} {h : D → EnvS → R EnvS} {x : Str} {p apos cpos pos : Pos} (hg : PGD X wr tg h) (hN : X.N[i]? = some x := by rfl) (hv : Vis X.env.scope x := by first | exact Or.inl rfl | exact Or.inr (Or.inl rfl) | exact Or.inr (Or.inr rfl)) (hd : (x == ("__debug__" : Str)) = false := by decide)
    (hcd : (x == ("__classdict__" : Str)) = false := by decide)
    (hbase : attributeBase (.Name x p) "pop" X.env (eval (.Name x p) X.env) = eval (.Name x p) X.env := by rfl)
    (hline : (apos.endLine == cpos.line) = true := by rfl)
    (hs : swapsWithSole [tg] (.Call (.Attribute (.Name x p) "pop" apos) [] [] cpos) pos.line X.env = pure false := by rfl) (hw : swappedStores [tg] (.Call (.Attribute (.Name x p) "pop" apos) [] [] cpos) X.env = pure none := by rfl)
    (h1 : (assignEach [tg] X.env).map (·.2) = [assign tg X.env] := by rfl) :
    PSD X W (i :: wr) (.Assign [tg] (.Call (.Attribute (.Name x p) "pop" apos) [] [] cpos) pos) (popU i h) :=
  (ps_asg (pe_bm0 PySem.F.plainAttrs_list PySem.F.slot_list_pop PySem.F.type_list_pop mt_pop (pe_var hN hv hd hcd) hbase hline) hg hs hw h1).wk fun Dd σ H ⟨G0, H0, G, ρ, ok, q⟩ => by
    unfold popU at q
    split at q
    · rename_i ds hi
      obtain ⟨a, xs, h1, h2, n1, r1⟩ := ok.env.ow i ds hi
      split at q
      · rename_i d he
        obtain ⟨v, hv2, rv⟩ := r1.get he
        refine ⟨_, h1, .inl ⟨rfl, xs, SqL.of h2⟩, a, xs, v, rfl, rfl, h2, by rw [r1.length]; exact hv2, ?_⟩
        have ok2 := ok.mut hi h1 r1.dropLast
        unfold grd at q
        cases e : h d (ρ.set i (some (.ow ds.dropLast))) with
        | ok ρ' =>
          rw [e] at q
          exact ⟨G, _, d, ok2.ext.sub, ok2.len, ok2.env, rv, ρ', e, fun σ' pt => q σ' G _ (ok2.puts pt) (.refl _) fun k hk => by
            have hk1 : k ≠ i := fun z => hk (by rw [z]; exact List.mem_cons_self)
            have := pt.fr k fun z => hk (List.mem_cons_of_mem _ z)
            exact ⟨this.1, by rw [this.2, List.getElem?_set_ne (Ne.symm hk1)]⟩⟩
        | ex x => rw [e] at q; exact q.elim
        | no => rw [e] at q; exact q.elim
      · exact q.elim
    · exact q.elim
/-- xs[::-1], a new list -/
def revL (f : EnvS → R (List D)) : EnvS → R (List D) := fun ρ => (f ρ).bind fun ds => .ok ds.reverse
theorem n_rev {e : Expr} {k : Nat} {p1 p2 p3 pos : Pos} {f : EnvS → R (List D)} (he : PDL X W e f) : PDN X W (.Subscript e (.Slice none none (some (.UnaryOp .USub (.Constant (.int 1) k p1) p2)) p3) pos) (revL f) :=
  (pe_revL he).wk fun σ H Q ⟨G, ρ, hs, he, q⟩ => by
    unfold revL at q
    refine seqL PostN.fin q hs he fun ds a xs G1 H1 _ e1 h1 r1 he1 q1 => ?_
    refine ⟨a, xs, rfl, SqL.of h1, fun p hp => ?_⟩
    exact q1 p _ G1 _ (Ext.newH e1.sub hp) hp (e1.sub.free hp) upd_same r1.reverse
end
end TD

/-! TdRec: defs that call themselves (a contract by steps), a list unpacked, t * n of a tuple. -/
namespace TD
open PySem PySem.Spec PyProof.Rows L2
section
variable {P : Program} {w : World} {K : PySem.W.Frag} {mg : Str → Option Value} {base : Heap}
theorem fn_none {k : Nat} {f : Addr} {fd : FuncData} {ps : List Str} : FnD P w K mg base k f fd ps (fun _ => .no) :=
  ⟨fun _ _ _ _ ⟨_, _, _, _, _, q⟩ => q.elim, fun _ _ _ _ _ _ _ _ _ _ _ _ _ ⟨_, _, _, _, _, q⟩ => q.elim⟩
end
section
variable {X : Cx} {W : WX} {pos : Pos} {wr : List Nat}
def unlG (n : Nat) (k : List D → EnvS → R EnvS) : D → EnvS → R EnvS := fun d ρ => match d with
  | .list ds => if ds.length = n then k ds ρ else .no
  | _ => .no
theorem g_unl (n : Nat) {es : List Expr} {k : Nat} {g : List D → EnvS → R EnvS} (h : PGsD X wr es g) (hc : X.calm = true := by rfl)
    (hn : (assignEach es X.env).length = n := by rfl) (hst : (assignEach es X.env).findIdx? (·.1) = none := by rfl) : PGD X wr (.Tuple es k pos) (unlG n g) := (pg_unl hc h hn hst).wk fun v σ H Q ⟨G, ρ, d, hs, hl, he, r, ρ', e, q⟩ => by
  unfold unlG at e
  cases d with
  | list ds =>
    dsimp only at e
    split at e
    · rename_i hn
      obtain ⟨a, xs, rfl, h1, g1, p1⟩ := r.seqL hs
      exact ⟨a, xs, rfl, SqL.of h1, by rw [p1.length]; exact hn, G, ρ, ds, hs, hl, he, p1, ρ', e, q⟩
    · cases e
  | _ => cases e
def repTD : D → D → R D
  | .tuple ds, .int k => if decide (ds ≠ [] ∧ 2 ≤ k ∧ k ≤ 1000 ∧ ds.length ≤ 1000) then .ok (.tuple (List.replicate k.toNat ds).flatten) else .no
  | _, _ => .no
theorem od_repT : OpD X (rRepT X.K) repTD := by
  intro a b x y G H Wx Q hs ra rb q
  unfold repTD at q
  split at q
  · rename_i ds k
    split at q
    · rename_i h
      have h := of_decide_eq_true h
      obtain ⟨l, xs, rfl, h1, g1, p1⟩ := ra.seqT hs
      cases rb
      refine ⟨l, k, xs, rfl, rfl, h1, fun z => ?_, h.2.1, h.2.2.1, by rw [p1.length]; exact h.2.2.2, fun p hp => ?_⟩
      · subst z; cases p1; exact h.1 rfl
      · have e := Ext.new (o := .tup (List.replicate k.toNat xs).flatten) hs hp
        exact q _ _ _ e (.tup (SqT.of upd_same) ((p1.rep k.toNat).up e.gg))
    · exact q.elim
  · exact q.elim
/-- if (a if c else b): -/
def ifB (c f g : EnvS → R Bool) : EnvS → R Bool := fun ρ => (c ρ).bind fun b => if b = true then f ρ else g ρ
theorem dt_if {c a b : Expr} {t f g : EnvS → R Bool} (hc : PTD X W c t) (ha : PTD X W a f) (hb : PTD X W b g) : PTD X W (.IfExp c a b pos) (ifB t f g) := by
  refine ⟨fun pins s σ H Q I ⟨G, ρ, hs, he, q⟩ => isTrue_IfExp ?_⟩
  refine thn (hc.run pins s σ H (fun v H1 => if v = true then tD X.K X.mg W rpB f σ H1 Q else tD X.K X.mg W rpB g σ H1 Q) I (Post.seq q hs he fun a v G1 H1 _ e1 r1 he1 q1 => ?_)) fun d s1 ⟨H1, I1, q1⟩ => ?_
  · cases r1
    cases a with
    | true => exact ⟨G1, ρ, e1.sub, he1, q1⟩
    | false => exact ⟨G1, ρ, e1.sub, he1, q1⟩
  · cases d with
    | true => exact ha.run pins s1 σ H1 Q I1 q1
    | false => exact hb.run pins s1 σ H1 Q I1 q1
def ifBK (r : R Bool) (f g : EnvS → R Bool) (ρ : EnvS) : R Bool := r.bind fun b => if b = true then f ρ else g ρ
@[simp] theorem ifB_ap {c f g : EnvS → R Bool} {ρ : EnvS} : ifB c f g ρ = ifBK (c ρ) f g ρ := rfl
@[simp] theorem ifBK_t {f g : EnvS → R Bool} {ρ : EnvS} : ifBK (.ok true) f g ρ = f ρ := rfl
@[simp] theorem ifBK_f {f g : EnvS → R Bool} {ρ : EnvS} : ifBK (.ok false) f g ρ = g ρ := rfl
/-- a comprehension within another one -/
def relabS (s0 sc : Scope) : Scope := { s0 with names := s0.names.map fun (n, k) => if (k == .free && sc.kind == .function && sc.names.lookup n == some .cell) then (n, .cell) else (n, k) }
theorem blkOk_nest {N : List Str} {s0 sc scope : Scope} {own : List (Str × Nat)} {cl : List (Str × Addr)} {C : Addr} {e : Env} (h : blkC N (relabS s0 sc) scope own = true) (hsc : e.scope = sc := by rfl) : BlkOk N (compEnvC s0 cl C e).scope scope own := by
  subst hsc
  exact blkOk_by h
end
end TD

/-! TdLook: an object with the fields boxes, box, hits, count, whose method look goes down a tree; read when it is done. -/
namespace TD
open PySem PySem.Spec PyProof.Rows L2
section
variable {X : Cx} {W : WX} {pos : Pos}
/-! ### an object that is read -/
def lkH : D → R D
  | .dict [(.bool true, .tuple [.list hs, .int _])] => .ok (.list hs)
  | _ => .no
def lkC : D → R D
  | .dict [(.bool true, .tuple [.list _, .int n])] => .ok (.int n)
  | _ => .no
@[simp] theorem lkH_ok {hs : List D} {n : Int} : lkH (lkD hs n) = .ok (.list hs) := rfl
@[simp] theorem lkC_ok {hs : List D} {n : Int} : lkC (lkD hs n) = .ok (.int n) := rfl
theorem d_fldH {e : Expr} {f : EnvS → R D} (h : PD X W e f) (hb : attributeBase e "hits" X.env (eval e X.env) = eval e X.env := by rfl) : PD X W (.Attribute e "hits" pos) (un1 lkH f) :=
  (pe_fld h hb).wk fun σ H Q ⟨G, ρ, hs, he, q⟩ => Post.seq q hs he fun a v G1 H1 _ e1 r1 he1 q1 => by
    unfold lkH at q1
    split at q1
    · obtain ⟨a, C, dx, hh, fs, vs, rfl, h1, h2, h3, h4, h5, h6, h7, h8⟩ := lk_inv (hs := _) (n := _) r1
      exact ⟨a, C, dx, fs, .ref hh, rfl, e1.sub _ _ h1, h2, h3, h5, Post.done q1 e1.sub (.lst h7 h8)⟩
    · exact q1.elim
theorem d_fldC {e : Expr} {f : EnvS → R D} (h : PD X W e f) (hb : attributeBase e "count" X.env (eval e X.env) = eval e X.env := by rfl) : PD X W (.Attribute e "count" pos) (un1 lkC f) :=
  (pe_fld h hb).wk fun σ H Q ⟨G, ρ, hs, he, q⟩ => Post.seq q hs he fun a v G1 H1 _ e1 r1 he1 q1 => by
    unfold lkC at q1
    split at q1
    · obtain ⟨a, C, dx, hh, fs, vs, rfl, h1, h2, h3, h4, h5, h6, h7, h8⟩ := lk_inv (hs := _) (n := _) r1
      exact ⟨a, C, dx, fs, .int _, rfl, e1.sub _ _ h1, h2, h4, h6, Post.done q1 e1.sub (.int _)⟩
    · exact q1.elim
end
/-! ### the object that is made -/
theorem kk1 : ¬ (("boxes" : Str) = "box") := by decide +kernel
theorem kk2 : ¬ (("boxes" : Str) = "hits") := by decide +kernel
theorem kk3 : ¬ (("boxes" : Str) = "count") := by decide +kernel
theorem kk4 : ¬ (("box" : Str) = "hits") := by decide +kernel
theorem kk5 : ¬ (("box" : Str) = "count") := by decide +kernel
theorem kk6 : ¬ (("hits" : Str) = "count") := by decide +kernel
def lkF (b c : V) (h : Addr) (n : Int) : List (Str × V) := putF "count" (.int n) (putF "hits" (.ref h) (putF "box" c (putF "boxes" b [])))
theorem lkF_eq (b c : V) (h : Addr) (n : Int) : lkF b c h n = ([("boxes", b), ("box", c), ("hits", V.ref h), ("count", V.int n)] : List (Str × V)) := by
  have e1 : putF ("box" : Str) c (putF ("boxes" : Str) b []) = ([("boxes", b), ("box", c)] : List (Str × V)) := by
    show (if ("boxes" : Str) = "box" then [(("boxes" : Str), c)] else (("boxes" : Str), b) :: putF ("box" : Str) c []) = _
    rw [if_neg kk1]; rfl
  have e2 : putF ("hits" : Str) (.ref h) ([("boxes", b), ("box", c)] : List (Str × V)) = ([("boxes", b), ("box", c), ("hits", V.ref h)] : List (Str × V)) := by
    show (if ("boxes" : Str) = "hits" then _ else (("boxes" : Str), b) :: (if ("box" : Str) = "hits" then _ else (("box" : Str), c) :: putF ("hits" : Str) (V.ref h) [])) = _
    rw [if_neg kk2, if_neg kk4]; rfl
  have e3 : putF ("count" : Str) (.int n) ([("boxes", b), ("box", c), ("hits", V.ref h)] : List (Str × V)) = ([("boxes", b), ("box", c), ("hits", V.ref h), ("count", V.int n)] : List (Str × V)) := by
    show (if ("boxes" : Str) = "count" then _ else (("boxes" : Str), b) :: (if ("box" : Str) = "count" then _ else (("box" : Str), c) :: (if ("hits" : Str) = "count" then _ else (("hits" : Str), V.ref h) :: putF ("count" : Str) (V.int n) []))) = _
    rw [if_neg kk3, if_neg kk5, if_neg kk6]; rfl
  unfold lkF
  rw [e1, e2, e3]
theorem lkF_put (b c : V) (h : Addr) (n m : Int) : putF "count" (.int m) (lkF b c h n) = lkF b c h m := by
  rw [lkF_eq, lkF_eq]
  show (if ("boxes" : Str) = "count" then _ else (("boxes" : Str), b) :: (if ("box" : Str) = "count" then _ else (("box" : Str), c) :: (if ("hits" : Str) = "count" then _ else (("hits" : Str), V.ref h) :: (if ("count" : Str) = "count" then [(("count" : Str), V.int m)] else _)))) = ([("boxes", b), ("box", c), ("hits", V.ref h), ("count", V.int m)] : List (Str × V))
  rw [if_neg kk3, if_neg kk5, if_neg kk6, if_pos rfl]
theorem lkF_boxes (b c : V) (h : Addr) (n : Int) : (lkF b c h n).lookup ("boxes" : Str) = some b := by
  unfold lkF
  rw [lookup_putF, if_neg kk3, lookup_putF, if_neg kk2, lookup_putF, if_neg kk1, lookup_putF, if_pos rfl]
theorem lkF_box (b c : V) (h : Addr) (n : Int) : (lkF b c h n).lookup ("box" : Str) = some c := by
  unfold lkF
  rw [lookup_putF, if_neg kk5, lookup_putF, if_neg kk4, lookup_putF, if_pos rfl]
theorem lkF_hits (b c : V) (h : Addr) (n : Int) : (lkF b c h n).lookup ("hits" : Str) = some (.ref h) := by
  unfold lkF
  rw [lookup_putF, if_neg kk6, lookup_putF, if_pos rfl]
theorem lkF_count (b c : V) (h : Addr) (n : Int) : (lkF b c h n).lookup ("count" : Str) = some (.int n) := by
  unfold lkF
  rw [lookup_putF, if_pos rfl]
theorem lkF_look (b c : V) (h : Addr) (n : Int) : (lkF b c h n).lookup ("look" : Str) = none := by
  have d1 : ¬ (("look" : Str) = "count") := by decide +kernel
  have d2 : ¬ (("look" : Str) = "hits") := by decide +kernel
  have d3 : ¬ (("look" : Str) = "box") := by decide +kernel
  have d4 : ¬ (("look" : Str) = "boxes") := by decide +kernel
  unfold lkF
  rw [lookup_putF, if_neg d1, lookup_putF, if_neg d2, lookup_putF, if_neg d3, lookup_putF, if_neg d4]
  rfl
/-- the facts of the class -/
structure LkC (K : PySem.W.Frag) (C fI fL : Addr) : Prop where
  cl : Cls K C
  mak : Mk K C fI
  me : Meth K C "look" fL
  n1 : NoAttr K C "boxes"
  n2 : NoAttr K C "box"
  n3 : NoAttr K C "hits"
  n4 : NoAttr K C "count"
/-! ### the promises -/
def spLkI (C : Addr) : Sp := fun vs H Q _ => ∃ (x dx : Addr) (b c : V), vs = [.ref x, b, c] ∧ H x = some (.ins C dx []) ∧ ∀ h, H h = none → h ≠ x → Q .non (upd (upd H h (.lst [])) x (.ins C dx (lkF b c h 0)))
def cutH (H : Hp) (x h : Addr) : Hp := fun p => if p = x ∨ p = h then none else H p
structure LkAt (C : Addr) (G H : Hp) (x h : Addr) (b c : V) (n : Int) (us : List V) : Prop where
  sub : Same G H
  gx : G x = none
  gh : G h = none
  ne : h ≠ x
  at_ : ∃ dx, H x = some (.ins C dx (lkF b c h n))
  ls : H h = some (.lst us)
def LkQ (r : R (List D × Int)) (P : List D × Int → Prop) : Prop := match r with
  | .ok r => P r
  | _ => False
theorem LkQ_ok {r : List D × Int} {P : List D × Int → Prop} : LkQ (.ok r) P = P r := rfl
def spLook (K : PySem.W.Frag) (C : Addr) (F : D → D → D → R (List D × Int)) : Sp := fun vs H Q _ => ∃ (G : Hp) (x h : Addr) (b c t : V) (us : List V) (n : Int) (B Cx T : D), vs = [.ref x, t] ∧ LkAt C G H x h b c n us ∧ Rp K G b B ∧ Rp K G c Cx ∧ Rp K G t T ∧
  LkQ (F B Cx T) fun r => us.length + r.1.length < sizeLine ∧ ∀ G' H' us', Ext G (cutH H x h) G' (cutH H' x h) → LkAt C G' H' x h b c (n + r.2) (us ++ us') → RpAll K G' us' r.1 → Q .non H'
theorem ext_cut {G H G' H' : Hp} {x h : Addr} (e : Ext G H G' H') (g1 : G x = none) (g2 : G h = none) (h1 : H x ≠ none) (h2 : H h ≠ none) : Ext G (cutH H x h) G' (cutH H' x h) := by
  have gx : G' x = none := by
    by_cases z : G' x = none
    · exact z
    · exact absurd (e.fr x g1 z) h1
  have gh : G' h = none := by
    by_cases z : G' h = none
    · exact z
    · exact absurd (e.fr h g2 z) h2
  refine ⟨fun p o hp => ?_, fun p o hp => ?_, e.gg, fun p a b => ?_⟩
  · have n : ¬ (p = x ∨ p = h) := by
      rintro (z | z)
      · rw [z, gx] at hp; cases hp
      · rw [z, gh] at hp; cases hp
    show (if p = x ∨ p = h then none else H' p) = _
    rw [if_neg n]; exact e.sub _ _ hp
  · have hp : (if p = x ∨ p = h then none else H p) = some o := hp
    show (if p = x ∨ p = h then none else H' p) = _
    split at hp
    · cases hp
    · rename_i n
      rw [if_neg n]; exact e.hh _ _ hp
  · show (if p = x ∨ p = h then none else H p) = none
    rw [e.fr p a b]
    split <;> rfl
theorem cut_upd1 {H : Hp} {x h : Addr} {o : HO} : cutH (upd H x o) x h = cutH H x h := by
  funext p
  show (if p = x ∨ p = h then none else upd H x o p) = (if p = x ∨ p = h then none else H p)
  by_cases n : p = x ∨ p = h
  · rw [if_pos n, if_pos n]
  · rw [if_neg n, if_neg n, upd_ne fun z => n (.inl z)]
theorem cut_upd2 {H : Hp} {x h : Addr} {o : HO} : cutH (upd H h o) x h = cutH H x h := by
  funext p
  show (if p = x ∨ p = h then none else upd H h o p) = (if p = x ∨ p = h then none else H p)
  by_cases n : p = x ∨ p = h
  · rw [if_pos n, if_pos n]
  · rw [if_neg n, if_neg n, upd_ne fun z => n (.inr z)]
section
variable {C : Addr} {G H G' H' : Hp} {x h : Addr} {b c : V} {n m : Int} {us vs : List V}
theorem LkAt.hx (a : LkAt C G H x h b c n us) : H x ≠ none := by obtain ⟨dx, e⟩ := a.at_; rw [e]; intro z; cases z
theorem LkAt.hh (a : LkAt C G H x h b c n us) : H h ≠ none := by rw [a.ls]; intro z; cases z
theorem LkAt.step (a : LkAt C G H x h b c n us) (e : Ext G H G' H') : LkAt C G' H' x h b c n us := by
  refine ⟨e.sub, ?_, ?_, a.ne, ?_, e.hh _ _ a.ls⟩
  · by_cases z : G' x = none
    · exact z
    · exact absurd (e.fr x a.gx z) a.hx
  · by_cases z : G' h = none
    · exact z
    · exact absurd (e.fr h a.gh z) a.hh
  · obtain ⟨dx, e'⟩ := a.at_
    exact ⟨dx, e.hh _ _ e'⟩
theorem LkAt.cut (a : LkAt C G H x h b c n us) (e : Ext G H G' H') : Ext G (cutH H x h) G' (cutH H' x h) := ext_cut e a.gx a.gh a.hx a.hh
theorem LkAt.count (a : LkAt C G H x h b c n us) {dx : Addr} : LkAt C G (upd H x (.ins C dx (lkF b c h m))) x h b c m us := by
  refine ⟨fun p o hp => ?_, a.gx, a.gh, a.ne, ⟨dx, upd_same⟩, by rw [upd_ne a.ne]; exact a.ls⟩
  rw [upd_ne (ne_of_none hp a.gx)]
  exact a.sub _ _ hp
theorem LkAt.hit (a : LkAt C G H x h b c n us) : LkAt C G (upd H h (.lst vs)) x h b c n vs := by
  refine ⟨fun p o hp => ?_, a.gx, a.gh, a.ne, ?_, upd_same⟩
  · rw [upd_ne (ne_of_none hp a.gh)]
    exact a.sub _ _ hp
  · obtain ⟨dx, e⟩ := a.at_
    exact ⟨dx, by rw [upd_ne a.ne.symm]; exact e⟩
end
/-! ### what look does -/
noncomputable def leafT : EnvS → R Bool := asF (bin2 eqD (bin2 ixD (varD 1) (cD (.int 0))) (cD (.str "leaf")))
noncomputable def lkStep (meet : List D → R D) (rec : D → R (List D × Int)) (B C T : D) : R (List D × Int) :=
  (leafT [none, some (.pu T)]).bind fun l => if l = true then
    (ixD T (.int 1)).bind fun k => (ixD B k).bind fun x => (asB (meet [x, C])).bind fun m => if m = true then .ok ([k], 1) else .ok ([], 1)
  else (ixD T (.int 1)).bind fun x => (asB (meet [x, C])).bind fun m => if m = true then
    (ixD T (.int 2)).bind fun l => (rec l).bind fun p => (ixD T (.int 3)).bind fun r => (rec r).bind fun q => .ok (p.1 ++ q.1, 1 + p.2 + q.2)
    else .ok ([], 1)
noncomputable def lkN (meet : List D → R D) : Nat → D → D → D → R (List D × Int)
  | 0 => fun _ _ _ => .no
  | n + 1 => fun B C T => lkStep meet (lkN meet n B C) B C T
section
variable {K : PySem.W.Frag} {mg : Str → Option Value} {W : WX}
def E00 : XK := fun _ _ _ => False
abbrev tIx1 (K : PySem.W.Frag) (mg : Str → Option Value) (W : WX) (j : Int) : TE := tD K mg W (rpE K) (bin2 ixD (varD 1) (cD (.int j)))
noncomputable abbrev tLook (K : PySem.W.Frag) (mg : Str → Option Value) (W : WX) (C : Addr) (meet : List D → R D) (F : D → D → D → R (List D × Int)) : TS :=
  tSeq (sFldAug K (tVar 0) (tC (.int 1)) (rI0 fun i j => .int (i + j)) "count")
    (tIfS (tD K mg W rpB leafT)
      (tIfS (tTest (tCallS (spD K mg 2 meet) (WE W) (tCons (tOp (rIx K) (tFld K (tVar 0) "boxes") (tIx1 K mg W 1)) (tCons (tFld K (tVar 0) "box") tNil))))
        (tDrop (tBM K "list" rAppend (tFld K (tVar 0) "hits") (tCons (tIx1 K mg W 1) tNil))) tNext)
      (tIfS (tTest (tCallS (spD K mg 2 meet) (WE W) (tCons (tIx1 K mg W 1) (tCons (tFld K (tVar 0) "box") tNil))))
        (tSeq (tDrop (tMeth C "look" (spLook K C F) [] E00 (tVar 0) (tCons (tIx1 K mg W 2) tNil)))
          (tDrop (tMeth C "look" (spLook K C F) [] E00 (tVar 0) (tCons (tIx1 K mg W 3) tNil)))) tNext))
theorem envL {G H : Hp} {x : Addr} {t : V} {T : D} (r : Rp K G t T) : EnvE K G H [some (.ref x), some t] [none, some (.pu T)] := by
  refine ⟨fun i d e => ?_, fun i ds e => ?_, rfl⟩
  · match i, e with
    | 0, e => cases e
    | 1, e => cases e; exact ⟨t, rfl, r⟩
    | i + 2, e => cases e
  · match i, e with
    | 0, e => cases e
    | 1, e => cases e
    | i + 2, e => cases e
theorem ix1_run {G H : Hp} {x : Addr} {t : V} {T d : D} {j : Int} {Q : VK} (hs : Same G H) (r : Rp K G t T) (h : ixD T (.int j) = .ok d) (q : ∀ v G' H', Ext G H G' H' → Rp K G' v d → Q v H') : tIx1 K mg W j [some (.ref x), some t] H Q := by
  refine ⟨G, [none, some (.pu T)], hs, envL r, ?_⟩
  rw [show bin2 ixD (varD 1) (cD (.int j)) [none, some (.pu T)] = ixD T (.int j) from rfl, h]
  exact q
theorem look_run {C fI fL : Addr} {X : Cx} (cc : LkC X.K C fI fL) {meet : List D → R D} {F : D → D → D → R (List D × Int)}
    {G H : Hp} {x h : Addr} {b c t : V} {n : Int} {us : List V} {B Cx T : D} (a : LkAt C G H x h b c n us) (rb : Rp X.K G b B) (rc : Rp X.K G c Cx) (rt : Rp X.K G t T) {Dd : Ends}
    (q : LkQ (lkStep meet (F B Cx) B Cx T) fun r => us.length + r.1.length < sizeLine ∧ ∀ σ G' H' us', Ext G (cutH H x h) G' (cutH H' x h) → LkAt C G' H' x h b c (n + r.2) (us ++ us') → RpAll X.K G' us' r.1 → Dd.nx σ H') : tLook X.K mg W C meet F Dd [some (.ref x), some t] H := by
  obtain ⟨dx, hx⟩ := a.at_
  refine ⟨_, rfl, x, C, dx, _, .int n, rfl, hx, cc.cl, cc.n4, lkF_count _ _ _ _, n, 1, rfl, rfl, dx, _, hx, (by rw [lkF_eq]; show 4 < 1000; decide), ?_⟩
  rw [lkF_put]
  have a1 : LkAt C G (upd H x (.ins C dx (lkF b c h (n + 1)))) x h b c (n + 1) us := a.count
  have ec : cutH (upd H x (.ins C dx (lkF b c h (n + 1)))) x h = cutH H x h := cut_upd1
  rw [← ec] at q
  generalize upd H x (.ins C dx (lkF b c h (n + 1))) = H1 at a1 q
  refine ⟨G, [none, some (.pu T)], a1.sub, envL rt, ?_⟩
  unfold lkStep at q
  cases el : leafT [none, some (.pu T)] with
  | ex z => rw [el] at q; exact q.elim
  | no => rw [el] at q; exact q.elim
  | ok l =>
    rw [el, R.ok_bind] at q
    intro v G2 H2 e2 rv
    cases rv
    have a2 := a1.step e2
    have x2 := a1.cut e2
    have rb2 := rb.up e2.gg
    have rc2 := rc.up e2.gg
    have rt2 := rt.up e2.gg
    obtain ⟨dx2, hx2⟩ := a2.at_
    cases l with
    | true =>
      rw [if_pos rfl] at q
      try dsimp only
      rw [if_pos rfl]
      cases e3 : ixD T (.int 1) with
      | ex z => rw [e3] at q; exact q.elim
      | no => rw [e3] at q; exact q.elim
      | ok k =>
        rw [e3, R.ok_bind] at q
        cases e4 : ixD B k with
        | ex z => rw [e4] at q; exact q.elim
        | no => rw [e4] at q; exact q.elim
        | ok bx =>
          rw [e4, R.ok_bind] at q
          -- self.boxes[tree[1]]
          refine ⟨_, rfl, x, C, dx2, _, b, rfl, hx2, cc.cl, cc.n1, lkF_boxes _ _ _ _, ix1_run a2.sub rt2 e3 fun v3 G3 H3 ex3 r3 => ?_⟩
          have a3 := a2.step ex3
          have x3 := x2.trans (a2.cut ex3)
          refine od_ix (X := X) B k b v3 G3 H3 (fun _ _ => True) _ a3.sub (rb2.up ex3.gg) r3 ?_
          rw [e4]
          intro v4 G4 H4 ex4 r4
          have a4 := a3.step ex4
          have x4 := x3.trans (a3.cut ex4)
          obtain ⟨dx4, hx4⟩ := a4.at_
          refine ⟨_, rfl, x, C, dx4, _, c, rfl, hx4, cc.cl, cc.n2, lkF_box _ _ _ _, ?_⟩
          refine ⟨G4, [bx, Cx], a4.sub, .cons r4 (.cons ((rc2.up ex3.gg).up ex4.gg) .nil), rfl, ?_⟩
          cases em : meet [bx, Cx] with
          | ex z => rw [em] at q; exact q.elim
          | no => rw [em] at q; exact q.elim
          | ok mr =>
            rw [em] at q
            cases mr with
            | bool m =>
              rw [asB_ok, R.ok_bind] at q
              intro v5 G5 H5 ex5 r5
              cases r5
              refine ⟨m, rfl, ?_⟩
              have a5 := a4.step ex5
              have x5 := x4.trans (a4.cut ex5)
              have rt5 := ((rt2.up ex3.gg).up ex4.gg).up ex5.gg
              cases m with
              | false =>
                rw [if_neg Bool.false_ne_true] at q
                try dsimp only
                rw [if_neg Bool.false_ne_true]
                exact q.2 _ G5 H5 [] x5 (by rw [List.append_nil]; exact a5) .nil
              | true =>
                rw [if_pos rfl] at q
                try dsimp only
                rw [if_pos rfl]
                obtain ⟨dx5, hx5⟩ := a5.at_
                refine ⟨_, rfl, x, C, dx5, _, .ref h, rfl, hx5, cc.cl, cc.n3, lkF_hits _ _ _ _, .inl ⟨rfl, us, SqL.of a5.ls⟩, ix1_run a5.sub rt5 e3 fun v6 G6 H6 ex6 r6 => ?_⟩
                have a6 := a5.step ex6
                have x6 := x5.trans (a5.cut ex6)
                have ql : us.length + [k].length < sizeLine := q.1
                refine ⟨h, us, v6, rfl, rfl, a6.ls, by rw [List.length_singleton] at ql; omega, ?_⟩
                exact q.2 _ G6 _ [v6] (by rw [cut_upd2]; exact x6) a6.hit (.one r6)
            | _ => exact q.elim
    | false =>
      rw [if_neg Bool.false_ne_true] at q
      try dsimp only
      rw [if_neg Bool.false_ne_true]
      cases e3 : ixD T (.int 1) with
      | ex z => rw [e3] at q; exact q.elim
      | no => rw [e3] at q; exact q.elim
      | ok bx =>
        rw [e3, R.ok_bind] at q
        refine ix1_run a2.sub rt2 e3 fun v3 G3 H3 ex3 r3 => ?_
        have a3 := a2.step ex3
        have x3 := x2.trans (a2.cut ex3)
        obtain ⟨dx3, hx3⟩ := a3.at_
        refine ⟨_, rfl, x, C, dx3, _, c, rfl, hx3, cc.cl, cc.n2, lkF_box _ _ _ _, ?_⟩
        refine ⟨G3, [bx, Cx], a3.sub, .cons r3 (.cons (rc2.up ex3.gg) .nil), rfl, ?_⟩
        cases em : meet [bx, Cx] with
        | ex z => rw [em] at q; exact q.elim
        | no => rw [em] at q; exact q.elim
        | ok mr =>
          rw [em] at q
          cases mr with
          | bool m =>
            rw [asB_ok, R.ok_bind] at q
            intro v5 G5 H5 ex5 r5
            cases r5
            refine ⟨m, rfl, ?_⟩
            have a5 := a3.step ex5
            have x5 := x3.trans (a3.cut ex5)
            have rb5 := (rb2.up ex3.gg).up ex5.gg
            have rc5 := (rc2.up ex3.gg).up ex5.gg
            have rt5 := (rt2.up ex3.gg).up ex5.gg
            cases m with
            | false =>
              rw [if_neg Bool.false_ne_true] at q
              try dsimp only
              rw [if_neg Bool.false_ne_true]
              exact q.2 _ G5 H5 [] x5 (by rw [List.append_nil]; exact a5) .nil
            | true =>
              rw [if_pos rfl] at q
              try dsimp only
              rw [if_pos rfl]
              obtain ⟨dx5, hx5⟩ := a5.at_
              cases e6 : ixD T (.int 2) with
              | ex z => rw [e6] at q; exact q.elim
              | no => rw [e6] at q; exact q.elim
              | ok l =>
                rw [e6, R.ok_bind] at q
                refine ⟨_, rfl, x, dx5, _, rfl, hx5, lkF_look _ _ _ _, ix1_run a5.sub rt5 e6 fun v6 G6 H6 ex6 r6 => ?_⟩
                have a6 := a5.step ex6
                have x6 := x5.trans (a5.cut ex6)
                refine ⟨G6, x, h, b, c, v6, us, n + 1, B, Cx, l, rfl, a6, rb5.up ex6.gg, rc5.up ex6.gg, r6, ?_⟩
                cases e7 : F B Cx l with
                | ex z => rw [e7] at q; exact q.elim
                | no => rw [e7] at q; exact q.elim
                | ok p =>
                  rw [e7, R.ok_bind] at q
                  rw [LkQ_ok]
                  cases e8 : ixD T (.int 3) with
                  | ex z => rw [e8] at q; exact q.elim
                  | no => rw [e8] at q; exact q.elim
                  | ok r =>
                    rw [e8, R.ok_bind] at q
                    cases e9 : F B Cx r with
                    | ex z => rw [e9] at q; exact q.elim
                    | no => rw [e9] at q; exact q.elim
                    | ok p2 =>
                      rw [e9, R.ok_bind, LkQ_ok] at q
                      dsimp only at q
                      rw [List.length_append] at q
                      refine ⟨by omega, fun G7 H7 us7 x7 a7 r7 => ?_⟩
                      have xx7 := x6.trans x7
                      have gg57 := ex6.gg.trans x7.gg
                      obtain ⟨dx7, hx7⟩ := a7.at_
                      refine ⟨_, rfl, x, dx7, _, rfl, hx7, lkF_look _ _ _ _, ix1_run a7.sub (rt5.up gg57) e8 fun v8 G8 H8 ex8 r8 => ?_⟩
                      have a8 := a7.step ex8
                      have x8 := xx7.trans (a7.cut ex8)
                      have hl7 : us7.length = p.1.length := r7.length
                      refine ⟨G8, x, h, b, c, v8, us ++ us7, n + 1 + p.2, B, Cx, r, rfl, a8, (rb5.up gg57).up ex8.gg, (rc5.up gg57).up ex8.gg, r8, ?_⟩
                      rw [e9, LkQ_ok]
                      refine ⟨by rw [List.length_append]; omega, fun G9 H9 us9 x9 a9 r9 => ?_⟩
                      refine q.2 _ G9 H9 (us7 ++ us9) (x8.trans x9) ?_ ((r7.up (ex8.gg.trans x9.gg)).append r9)
                      rw [← List.append_assoc, show n + (1 + p.2 + p2.2) = n + 1 + p.2 + p2.2 by omega]
                      exact a9
          | _ => exact q.elim
/-! ### the two defs of the class -/
abbrev tInit (K : PySem.W.Frag) : TS := tSeq (sFld K (tVar 0) (tVar 1) "boxes") (tSeq (sFld K (tVar 0) (tVar 2) "box") (tSeq (sFld K (tVar 0) (tLst tNil) "hits") (sFld K (tVar 0) (tC (.int 0)) "count")))
theorem init_run {C fI fL : Addr} (cc : LkC K C fI fL) {H : Hp} {x dx : Addr} {b c : V} (hx : H x = some (.ins C dx [])) {Dd : Ends}
    (q : ∀ h, H h = none → h ≠ x → Dd.nx [some (.ref x), some b, some c] (upd (upd H h (.lst [])) x (.ins C dx (lkF b c h 0)))) : tInit K Dd [some (.ref x), some b, some c] H := by
  refine ⟨b, rfl, _, rfl, x, C, dx, [], rfl, hx, cc.cl, cc.n1, (by show 0 < 1000; decide), ?_⟩
  refine ⟨c, rfl, _, rfl, x, C, dx, _, rfl, upd_same, cc.cl, cc.n2, (by show 1 < 1000; decide), ?_⟩
  refine ⟨Nat.zero_le _, fun h hh => ?_⟩
  have hne : h ≠ x := fun z => by rw [z, upd_same] at hh; cases hh
  have hH : H h = none := by rw [upd_ne hne, upd_ne hne] at hh; exact hh
  have l3 : (putF ("box" : Str) c (putF ("boxes" : Str) b [])).length < 1000 := by
    have e1 : putF ("box" : Str) c (putF ("boxes" : Str) b []) = ([("boxes", b), ("box", c)] : List (Str × V)) := by
      show (if ("boxes" : Str) = "box" then [(("boxes" : Str), c)] else (("boxes" : Str), b) :: putF ("box" : Str) c []) = _
      rw [if_neg kk1]; rfl
    rw [e1]; show 2 < 1000; decide
  have l4 : (putF ("hits" : Str) (V.ref h) (putF ("box" : Str) c (putF ("boxes" : Str) b []))).length < 1000 := by
    have e1 : putF ("box" : Str) c (putF ("boxes" : Str) b []) = ([("boxes", b), ("box", c)] : List (Str × V)) := by
      show (if ("boxes" : Str) = "box" then [(("boxes" : Str), c)] else (("boxes" : Str), b) :: putF ("box" : Str) c []) = _
      rw [if_neg kk1]; rfl
    have e2 : putF ("hits" : Str) (.ref h) ([("boxes", b), ("box", c)] : List (Str × V)) = ([("boxes", b), ("box", c), ("hits", V.ref h)] : List (Str × V)) := by
      show (if ("boxes" : Str) = "hits" then _ else (("boxes" : Str), b) :: (if ("box" : Str) = "hits" then _ else (("box" : Str), c) :: putF ("hits" : Str) (V.ref h) [])) = _
      rw [if_neg kk2, if_neg kk4]; rfl
    rw [e1, e2]; show 3 < 1000; decide
  refine ⟨_, rfl, x, C, dx, _, rfl, (by rw [upd_ne hne.symm, upd_same]), cc.cl, cc.n3, l3, ?_⟩
  refine ⟨_, rfl, x, C, dx, _, rfl, upd_same, cc.cl, cc.n4, l4, ?_⟩
  have e : upd (upd (upd (upd (upd H x (.ins C dx (putF ("boxes" : Str) b []))) x (.ins C dx (putF ("box" : Str) c (putF ("boxes" : Str) b [])))) h (.lst [])) x (.ins C dx (putF ("hits" : Str) (V.ref h) (putF ("box" : Str) c (putF ("boxes" : Str) b []))))) x (.ins C dx (putF ("count" : Str) (.int 0) (putF ("hits" : Str) (V.ref h) (putF ("box" : Str) c (putF ("boxes" : Str) b []))))) = upd (upd H h (.lst [])) x (.ins C dx (lkF b c h 0)) := by
    funext p
    by_cases hp : p = x
    · rw [hp, upd_same, upd_same]; rfl
    · rw [upd_ne hp, upd_ne hp, upd_ne hp]
      by_cases hq : p = h
      · rw [hq, upd_same, upd_same]
      · rw [upd_ne hq, upd_ne hq, upd_ne hp, upd_ne hp]
  have q' := q h hH hne
  rw [← e] at q'
  exact q'
end
section
variable {P : Program} {w : World} {K : PySem.W.Frag} {mg : Str → Option Value} {base : Heap} {C fI fL : Addr}
theorem lkinit_ok {qual : Str} {st : Stmt} {f : Addr} {fd : FuncData} {k : Nat} (F : Fun K "__init__" qual st f fd) (S : FnScope ["self", "boxes", "box"] ["self", "boxes", "box"] (defScope st)) (cc : LkC K C fI fL)
    (hb : ∀ (cdv : Value) (A : Around) (outer : List Env) (s : Shared) (H : Hp) (E : XK), PSs (cxOf (L2.CX P w) P w K mg base ["self", "boxes", "box"] qual (defScope st) f cdv A outer s H E) (defBody st) (tInit K)) :
    FnOk P w K mg base (L2.CX P w) (k + 1) f fd ["self", "boxes", "box"] (spLkI C) := by
  refine F.okX S (fun vs H Q E ⟨x, dx, b, c, e, _⟩ => by rw [e]; rfl) fun cdv A outer s H vs Q E hr ⟨x, dx, b, c, e, hx, q⟩ => ⟨_, hb cdv A outer s H E, ?_⟩
  subst e
  exact init_run cc hx fun h hh hne => q h hh hne
theorem lklook_ok {qual : Str} {st : Stmt} {f : Addr} {fd : FuncData} {k : Nat} {meet : List D → R D} {F0 : D → D → D → R (List D × Int)} (F : Fun K "look" qual st f fd) (S : FnScope ["self", "tree"] ["self", "tree"] (defScope st)) (cc : LkC K C fI fL)
    (hb : ∀ (cdv : Value) (A : Around) (outer : List Env) (s : Shared) (H : Hp) (E : XK), Room k (A.deeper (envOfC qual (defScope st) s.heap.objs.size f cdv)) →
      Takes (cxOf (L2.CX P w) P w K mg base ["self", "tree"] qual (defScope st) f cdv A outer s H E) (fun c d _ H => E c d H) →
      PSs (cxOf (L2.CX P w) P w K mg base ["self", "tree"] qual (defScope st) f cdv A outer s H E) (defBody st) (tLook K mg (fun c d _ H => E c d H) C meet F0)) :
    FnOk P w K mg base (L2.CX P w) (k + 1) f fd ["self", "tree"] (spLook K C fun B Cx T => lkStep meet (F0 B Cx) B Cx T) := by
  refine F.okX S (fun vs H Q E ⟨G, x, h, b, c, t, us, n, B, Cx, T, e, _⟩ => by rw [e]; rfl) fun cdv A outer s H vs Q E hr ⟨G, x, h, b, c, t, us, n, B, Cx, T, e, a, rb, rc, rt, q⟩ => ⟨_, hb cdv A outer s H E hr (takes_of rfl rfl rfl rfl), ?_⟩
  subst e
  refine look_run (X := cxOf (L2.CX P w) P w K mg base ["self", "tree"] qual (defScope st) f cdv A outer s H E) cc a rb rc rt ?_
  have q : LkQ (lkStep meet (F0 B Cx) B Cx T) _ := q
  cases e : lkStep meet (F0 B Cx) B Cx T with
  | ok r =>
    rw [e] at q
    exact ⟨q.1, fun σ G' H' us' z1 z2 z3 => q.2 G' H' us' z1 z2 z3⟩
  | ex z => rw [e] at q; exact q.elim
  | no => rw [e] at q; exact q.elim
theorem lk_none {k : Nat} {f : Addr} {fd : FuncData} {ps : List Str} : FnOk P w K mg base (L2.CX P w) k f fd ps (spLook K C fun _ _ _ => .no) :=
  ⟨fun _ _ _ _ ⟨_, _, _, _, _, _, _, _, _, _, _, _, _, _, _, _, q⟩ => q.elim, fun _ _ _ _ _ _ _ _ _ _ _ _ _ ⟨_, _, _, _, _, _, _, _, _, _, _, _, _, _, _, _, q⟩ => q.elim⟩
end
/-! ### the pair: x = Looking(a, b); x.look(t) -/
section
variable {X : Cx} {W : WX} {pos : Pos} {wr : List Nat}
theorem pass00 : Passes (L2.CX X.prog X.w) X E00 := fun _ _ _ _ _ _ _ c => by obtain ⟨_, _, _, _, _, _, _, _, _, _, _, _, z⟩ := c; exact z.elim
def lkR (i : Nat) (r : R (List D × Int)) (ρ : EnvS) : Out := match r with
  | .ok r => if lineOk (r.1.length + 1) && decide (i < ρ.length) then .nx (ρ.set i (some (.pu (lkD r.1 r.2)))) else .no
  | _ => .no
def lkK (i : Nat) (t : R D) (F : D → R (List D × Int)) (ρ : EnvS) : Out := match t with
  | .ok t => lkR i (F t) ρ
  | _ => .no
theorem lkK_ok {i : Nat} {t : D} {F : D → R (List D × Int)} {ρ : EnvS} : lkK i (.ok t) F ρ = lkR i (F t) ρ := rfl
theorem lkR_ok {i : Nat} {r : List D × Int} {ρ : EnvS} : lkR i (.ok r) ρ = if lineOk (r.1.length + 1) && decide (i < ρ.length) then .nx (ρ.set i (some (.pu (lkD r.1 r.2)))) else .no := rfl
def lkO (i : Nat) (f1 f2 f3 : EnvS → R D) (F : D → D → D → R (List D × Int)) : EnvS → Out := fun ρ => (f1 ρ).out ρ fun a => (f2 ρ).out ρ fun b => lkK i (f3 (ρ.set i none)) (F a b) ρ
theorem ss_look (i : Nat) {kI kL : Nat} {C fI fL : Addr} {fdI fdL : FuncData} {F : D → D → D → R (List D × Int)} {nm y : Str} {e1 e2 e3 : Expr} {f1 f2 f3 : EnvS → R D} {rs : List Stmt} {g : EnvS → Out} {p1 p2 p3 p4 p5 p6 p7 p8 : Pos}
    (cc : LkC X.K C fI fL) (FI : FnOk X.prog X.w X.K X.mg X.base (L2.CX X.prog X.w) kI fI fdI ["self", "boxes", "box"] (spLkI C)) (hrI : Room (kI + 1) X.A) (hm : X.mg nm = some (.ref C)) (bI : Binds X.K fdI ["self", "boxes", "box"] [])
    (FL : FnOk X.prog X.w X.K X.mg X.base (L2.CX X.prog X.w) kL fL fdL ["self", "tree"] (spLook X.K C F)) (hrL : Room kL X.A) (bL : Binds X.K fdL ["self", "tree"] [])
    (hnd : X.N.Nodup) (h1 : PD X W e1 f1) (h2 : PD X W e2 f2) (h3 : PD X W e3 f3) (hr : PSsD X W wr rs g) (hj : X.N[i]? = some y := by rfl) (hy : Loc X.env.scope y := by first | exact Or.inl rfl | exact Or.inr rfl) (hv : Vis X.env.scope y := by first | exact Or.inl rfl | exact Or.inr (Or.inl rfl) | exact Or.inr (Or.inr rfl))
    (hd : (y == ("__debug__" : Str)) = false := by decide) (hcd : (y == ("__classdict__" : Str)) = false := by decide) (hg : Gl X nm := by rfl) (hdb : (nm == ("__debug__" : Str)) = false := by decide)
    (q1 : starEach [e1, e2] X.env = (false, eval e1 X.env) :: starEach [e2] X.env := by rfl) (q2 : starEach [e2] X.env = (false, eval e2 X.env) :: starEach [] X.env := by rfl) (q3 : starEach [e3] X.env = (false, eval e3 X.env) :: starEach [] X.env := by rfl)
    (pl1 : (backTo p3 (starEach [e2] X.env)).any (·.1) = false := by rfl) (pl2 : (backTo p8 (starEach [] X.env)).any (·.1) = false := by rfl)
    (hs : swapsWith (.Call (.Name nm p2) [e1, e2] [] p3) (some (.Name y p1)) p4.line X.env = pure false := by rfl) (hf : X.fn y = true ∨ X.env.scope.names.lookup y = some .local := by first | exact .inl rfl | exact .inr rfl)
    (hs2 : swapsWith (.Call (.Attribute (.Name y p5) "look" p6) [e3] [] p8) none p7.line X.env = pure false := by rfl) {pl : Sem Bool}
    (ht : eval (.Call (.Attribute (.Name y p5) "look" p6) [e3] [] p8) X.env = (do
      let ov ← eval (.Name y p5) X.env
      standAt p6.atName
      let (f, first) ← holding [ov] (getMethod ov "look" pl)
      callWith p8 f first (backTo p8 (starEach [e3] X.env)) (backToKw p8 (keywordEach [] X.env))) := by rfl) :
    PSsD X W (i :: wr) (.Assign [.Name y p1] (.Call (.Name nm p2) [e1, e2] [] p3) p4 :: .Expr (.Call (.Attribute (.Name y p5) "look" p6) [e3] [] p8) p7 :: rs) (sqO (lkO i f1 f2 f3 F) g) :=
  (pss_cons (ps_set hnd hj hy (pe_make cc.mak FI hrI hg hm bI .nil pass00 (pa_cons h1 (pa_cons h2 pa_nil q2) q1) hdb q1 pl1) hs hf)
    (pss_cons (ps_expr (pe_meth (pl := pl) (pe_var hj hv hd hcd) cc.cl cc.me FL hrL bL .nil pass00 (pa_cons h3 pa_nil q3) q3 pl2 ht) hs2) hr)).wk fun Dd σ H ⟨G0, H0, G, ρ, ok, q⟩ => by
    unfold sqO lkO at q
    have qa : PostS X.K X.mg W G0 H0 (i :: wr) σ ρ G ((f1 ρ).out ρ fun a => ((f2 ρ).out ρ fun b => lkK i (f3 (ρ.set i none)) (F a b) ρ).seq g) Dd := by
      cases e : f1 ρ with
      | ok a => rw [e] at q; exact q
      | ex z => rw [e] at q; exact q
      | no => rw [e] at q; exact q
    refine outE qa ok fun a v1 G1 H1 _ x1 r1 ok1 qb => ?_
    have qc : PostS X.K X.mg W G0 H0 (i :: wr) σ ρ G1 ((f2 ρ).out ρ fun b => (lkK i (f3 (ρ.set i none)) (F a b) ρ).seq g) Dd := by
      cases e : f2 ρ with
      | ok a => rw [e] at qb; exact qb
      | ex z => rw [e] at qb; exact qb
      | no => rw [e] at qb; exact qb
    refine outE qc ok1 fun b v2 G2 H2 _ x2 r2 ok2 qd => ?_
    intro x dx nx ndx nex
    refine ⟨x, dx, v1, v2, rfl, upd_same, fun h hh hne => ⟨rfl, ?_⟩⟩
    have hhd : h ≠ dx := fun z => by rw [z, upd_ne nex, upd_same] at hh; cases hh
    have hh2 : H2 h = none := by rw [upd_ne hne, upd_ne hhd] at hh; exact hh
    have g2x : G2 x = none := ok2.ext.sub.free nx
    have g2h : G2 h = none := ok2.ext.sub.free hh2
    have s24 : Same H2 (upd (upd (upd (upd H2 dx (.own x)) x (.ins C dx [])) h (.lst [])) x (.ins C dx (lkF v1 v2 h 0))) := fun p o e => by
      rw [upd_ne (ne_of_none e nx), upd_ne (ne_of_none e hh2), upd_ne (ne_of_none e nx), upd_ne (ne_of_none e ndx)]
      exact e
    have h4x : (upd (upd (upd (upd H2 dx (.own x)) x (.ins C dx [])) h (.lst [])) x (.ins C dx (lkF v1 v2 h 0))) x = some (.ins C dx (lkF v1 v2 h 0)) := upd_same
    have h4h : (upd (upd (upd (upd H2 dx (.own x)) x (.ins C dx [])) h (.lst [])) x (.ins C dx (lkF v1 v2 h 0))) h = some (.lst []) := by rw [upd_ne hne, upd_same]
    generalize upd (upd (upd (upd H2 dx (.own x)) x (.ins C dx [])) h (.lst [])) x (.ins C dx (lkF v1 v2 h 0)) = H4 at s24 h4x h4h
    have e24 : Ext G2 H2 G2 H4 := ⟨ok2.ext.sub.trans s24, s24, .refl _, fun _ z1 z2 => absurd z1 z2⟩
    have hil : i < σ.length := by
      rw [ok2.len]
      unfold lkK at qd
      split at qd
      · unfold lkR at qd
        split at qd
        · split at qd
          · rename_i hl
            rw [Bool.and_eq_true] at hl
            exact of_decide_eq_true hl.2
          · exact qd.elim
        · exact qd.elim
      · exact qd.elim
    refine ⟨.ref x, List.getElem?_set_self hil, x, dx, _, rfl, h4x, lkF_look _ _ _ _, ?_⟩
    have env4 : EnvE X.K G2 H4 (σ.set i (some (.ref x))) (ρ.set i none) := by
      have e := ok2.env.up e24
      refine ⟨fun j d z => ?_, fun j ds z => ?_, by rw [List.length_set, List.length_set]; exact e.len⟩
      · rcases get_set z with ⟨_, z2, _⟩ | ⟨z1, z2⟩
        · cases z2
        · rw [List.getElem?_set_ne (Ne.symm z1)]; exact e.pu j d z2
      · rcases get_set z with ⟨_, z2, _⟩ | ⟨z1, z2⟩
        · cases z2
        · rw [List.getElem?_set_ne (Ne.symm z1)]; exact e.ow j ds z2
    refine ⟨G2, ρ.set i none, ok2.ext.sub.trans s24, env4, ?_⟩
    cases e3 : f3 (ρ.set i none) with
    | ex z => rw [e3] at qd; exact qd.elim
    | no => rw [e3] at qd; exact qd.elim
    | ok t =>
      rw [e3, lkK_ok] at qd
      intro v5 G5 H5 x5 r5
      have a4 : LkAt C G2 H4 x h v1 v2 0 [] := ⟨ok2.ext.sub.trans s24, g2x, g2h, hne, ⟨dx, h4x⟩, h4h⟩
      have a5 := a4.step x5
      refine ⟨G5, x, h, v1, v2, v5, [], 0, a, b, t, rfl, a5, (Rp.up r1 x2.gg).up x5.gg, Rp.up r2 x5.gg, r5, ?_⟩
      cases e4 : F a b t with
      | ex z => rw [e4] at qd; exact qd.elim
      | no => rw [e4] at qd; exact qd.elim
      | ok r =>
        rw [e4, lkR_ok] at qd
        split at qd
        · rename_i hl
          rw [Bool.and_eq_true] at hl
          have hl := hl.1
          rw [LkQ_ok]
          refine ⟨by have := lineOk_le hl; simp only [List.length_nil]; omega, fun G6 H6 us6 x6 a6 r6 => ?_⟩
          rw [List.nil_append, Int.zero_add] at a6
          have e25 : Ext G2 H2 G5 (cutH H5 x h) := by
            refine ⟨fun p o z => ?_, fun p o z => ?_, x5.gg, fun p z1 z2 => ?_⟩
            · have n : ¬ (p = x ∨ p = h) := by
                rintro (n | n)
                · rw [n, a5.gx] at z; cases z
                · rw [n, a5.gh] at z; cases z
              show (if p = x ∨ p = h then none else H5 p) = _
              rw [if_neg n]; exact x5.sub _ _ z
            · have n : ¬ (p = x ∨ p = h) := by
                rintro (n | n)
                · rw [n, nx] at z; cases z
                · rw [n, hh2] at z; cases z
              show (if p = x ∨ p = h then none else H5 p) = _
              rw [if_neg n]; exact x5.hh _ _ (s24 _ _ z)
            · have := x5.fr p z1 z2
              by_cases z3 : H2 p = none
              · exact z3
              · cases z4 : H2 p with
                | none => rfl
                | some o => rw [s24 _ _ z4] at this; cases this
          obtain ⟨dx6, hx6⟩ := a6.at_
          have e67 : Ext G6 (cutH H6 x h) (upd (upd G6 h (.lst us6)) x (.ins C dx6 (lkF v1 v2 h r.2))) H6 := by
            refine ⟨fun p o z => ?_, fun p o z => ?_, fun p o z => ?_, fun p z1 z2 => ?_⟩
            · by_cases n1 : p = x
              · rw [n1, upd_same] at z; rw [n1, hx6]; exact z
              · rw [upd_ne n1] at z
                by_cases n2 : p = h
                · rw [n2, upd_same] at z; rw [n2, a6.ls]; exact z
                · rw [upd_ne n2] at z; exact a6.sub _ _ z
            · have z : (if p = x ∨ p = h then none else H6 p) = some o := z
              split at z
              · cases z
              · exact z
            · rw [upd_ne (ne_of_none z a6.gx), upd_ne (ne_of_none z a6.gh)]; exact z
            · show (if p = x ∨ p = h then none else H6 p) = none
              by_cases n : p = x ∨ p = h
              · rw [if_pos n]
              · exact absurd z1 (by rw [upd_ne fun z => n (.inl z), upd_ne fun z => n (.inr z)] at z2; exact z2)
          have e27 : Ext G2 H2 (upd (upd G6 h (.lst us6)) x (.ins C dx6 (lkF v1 v2 h r.2))) H6 := (e25.trans x6).trans e67
          have ok6 := ok2.step e27
          have rl : Rp X.K (upd (upd G6 h (.lst us6)) x (.ins C dx6 (lkF v1 v2 h r.2))) (.ref x) (lkD r.1 r.2) :=
            .obj upd_same cc.cl cc.n3 cc.n4 (lkF_hits _ _ _ _) (lkF_count _ _ _ _) (by rw [upd_ne hne, upd_same]) (r6.up e67.gg)
          exact ⟨G0, H0, _, _, ok6.put rl i, PostS.later qd (fun j z => List.mem_cons_of_mem _ z) e27.gg (fr_set.mono fun j z => by rw [List.mem_singleton.mp z]; exact List.mem_cons_self)⟩
        · exact qd.elim
end
end TD

/-! TdTas: except clauses with a name, with a tuple of classes. -/
namespace TD
open PySem PySem.Spec PyProof.Rows L2
/-- what a clause's test does -/
def TestT (X : Cx) (t : Expr) (f : Value → Option Bool) : Prop :=
  ∀ (a : Addr) (oe : Obj) (pn : List (Addr × Obj)) (σ : L2.St) (H : Hp) (s : Shared) (cls : Value) (b : Bool) (Q : Bool → Shared → Prop) (E : Value → Shared → Prop),
    Inv (X.suite a ((a, oe) :: pn)) [] σ H s → PySem.W.Looks (model X.prog X.w) s.heap (typeOf (.ref a)) cls → f cls = some b →
    (∀ h', (∀ q o, s.heap.get? q = some o → h'.get? q = some o) → Q b { s with heap := h' }) →
    wpAny (model X.prog X.w) (X.A.mark (some (.ref a))) (eval t X.env) (fun c s₁ => wpAny (model X.prog X.w) (X.A.mark (some (.ref a))) (excMatches (.ref a) c) Q E s₁) E s
theorem test_name {X : Cx} {x : Str} {c : Value} {np : Pos} (hm : X.mg x = some c) (hg : Gl X x := by rfl) (hdb : (x == ("__debug__" : Str)) = false := by decide) : TestT X (.Name x np) (fun cls => PySem.W.exmOne X.K cls c) :=
  fun a oe pn σ H s cls b Q E I LT hf q => ld_glob (X := X.suite a ((a, oe) :: pn)) I hg hm ((PySem.W.exm_one (M := model X.prog X.w) (Inv.kIn (X := X.suite a ((a, oe) :: pn)) I) LT hf).here (q s.heap fun _ _ z => z)) hdb
theorem test_tup2 {X : Cx} {x1 x2 : Str} {c1 c2 : Value} {p1 p2 tpos : Pos} {kk : Nat} (hm1 : X.mg x1 = some c1) (hm2 : X.mg x2 = some c2) (hg1 : Gl X x1 := by rfl) (hg2 : Gl X x2 := by rfl) (hd1 : (x1 == ("__debug__" : Str)) = false := by decide)
    (hd2 : (x2 == ("__debug__" : Str)) = false := by decide) : TestT X (.Tuple [.Name x1 p1, .Name x2 p2] kk tpos) (fun cls => PySem.W.exmAny X.K cls [c1, c2]) := fun a oe pn σ H s cls b Q E I LT hf q => by
  refine wpAny_Tuple ?_
  refine wpAny_items_cons (ld_glob (X := X.suite a ((a, oe) :: pn)) I hg1 hm1 ?_ hd1)
  refine wpAny_items_cons (ld_glob (X := X.suite a ((a, oe) :: pn)) I hg2 hm2 ?_ hd2)
  refine wpAny_items_nil ⟨by size_fits, ?_⟩
  have kp : ∀ q o, s.heap.get? q = some o → (s.heap.push { cls := .type "tuple", data := .seq [c1, c2].toArray }).get? q = some o := fun _ _ z => Heap.get?_push_of_some _ z
  exact (PySem.W.exm_tup2 (M := model X.prog X.w) ((Inv.kIn (X := X.suite a ((a, oe) :: pn)) I).keeps kp) (LT.keeps kp) (Heap.get?_push_size s.heap rfl) hf).here (q _ kp)
/-- what the clauses wish of an exception of the body -/
def wCls (Wout : WX) (D : Ends) : List ((Value → Option Bool) × (Addr → Value → Option Addr → TS)) → WX
  | [] => Wout
  | (f, ts) :: r => fun cls d σ H => ∃ b, f cls = some b ∧ (b = true → ∀ a, H a = none → ts a cls d D σ H) ∧ (b = false → wCls Wout D r cls d σ H)
/-- a suite with the name at the place i -/
def tAs (i : Nat) (ts : Addr → Value → Option Addr → TS) : Addr → Value → Option Addr → TS := fun a cls d D σ H =>
  ts a cls d { nx := fun σ' H' => D.nx (σ'.set i none) H', rt := D.rt, bk := fun σ' H' => D.bk (σ'.set i none) H', ct := fun σ' H' => D.ct (σ'.set i none) H' } (σ.set i (some (.ref a))) H
inductive ClsOk (X : Cx) : List ExceptHandler → List ((Value → Option Bool) × (Addr → Value → Option Addr → TS)) → Prop
  | nil : ClsOk X [] []
  | as {t : Expr} {n : Str} {i : Nat} {f : Value → Option Bool} {ts : Addr → Value → Option Addr → TS} {b₀ : Stmt} {suite : List Stmt} {pos' : Pos} {hds : List ExceptHandler} {l : List ((Value → Option Bool) × (Addr → Value → Option Addr → TS))}
      (ht : TestT X t f) (hi : X.N[i]? = some n) (hln : X.env.kindOf n = some .local)
      (hsu : ∀ (a : Addr) (oe : Obj) (cls : Value) (d : Option Addr) (pn : List (Addr × Obj)), Zc cls d oe → (∃ vs, oe.data = .fields vs) → PSs (X.suite a ((a, oe) :: pn)) (b₀ :: suite) (ts a cls d)) (r : ClsOk X hds l) :
      ClsOk X (.ExceptHandler (some t) (some n) (b₀ :: suite) pos' :: hds) ((f, tAs i ts) :: l)
  | plain {t : Expr} {f : Value → Option Bool} {ts : Addr → Value → Option Addr → TS} {b₀ : Stmt} {suite : List Stmt} {pos' : Pos} {hds : List ExceptHandler} {l : List ((Value → Option Bool) × (Addr → Value → Option Addr → TS))}
      (ht : TestT X t f)
      (hsu : ∀ (a : Addr) (oe : Obj) (cls : Value) (d : Option Addr) (pn : List (Addr × Obj)), Zc cls d oe → (∃ vs, oe.data = .fields vs) → PSs (X.suite a ((a, oe) :: pn)) (b₀ :: suite) (ts a cls d)) (r : ClsOk X hds l) :
      ClsOk X (.ExceptHandler (some t) none (b₀ :: suite) pos' :: hds) ((f, ts) :: l)
section
variable {X : Cx} {body : List Stmt} {h₀ : ExceptHandler} {hds : List ExceptHandler} {l : List ((Value → Option Bool) × (Addr → Value → Option Addr → TS))} {pos : Pos} {tb : WX → TS} {Wout : WX}
theorem ps_try_cls (hs : X.stack = X.env :: X.outer) (hf : X.env.frame = some X.env.locals) (hN : X.N.Nodup) (tk : Takes X Wout)
    (hb : ∀ (W : WX) (pn : List (Addr × Obj)) (xe : Value → Shared → Prop), Takes (X.tr pn xe) W → PassesOwn (model X.prog X.w) X.A X.env xe → PSs (X.tr pn xe) body (tb W))
    (hh : ClsOk X (h₀ :: hds) l) : PS X (.Try body (h₀ :: hds) [] [] pos) (fun D σ H => tb (wCls Wout D l) D σ H) := by
  refine ⟨fun pins s σ H D I h => ?_⟩
  have ok := I.ok
  have hfr : X.A.frames = some (X.env :: X.outer) := by rw [ok.frames, hs]
  refine wpAny_Try_except ?_
  refine wpAny_mono ((hb (wCls Wout D l) (X.pn ++ pins) (fun e s₁ => wpAny (model X.prog X.w) X.A (noteFrame e X.env) (fun _ s₂ => wpAny (model X.prog X.w) X.A (setFlight e none) (fun _ s₃ =>
    wpAny (model X.prog X.w) X.A (handleBy e X.env (h₀ :: hds)) (SP X pins D) X.xe s₃) X.xe s₂) X.xe s₁) (fun u s' xx => ?_) PassesOwn.looking).run [] s σ H D (I.toTry _) h) (fun f s1 hsp => ?_) (fun e s1 he => he)
  · obtain ⟨a, B, sI, pins', σ', H', cls, d, rfl, J', nb, up, sky, na, os, ag, w⟩ := xx
    have J : Inv X pins σ' H' sI := J'.ofTry ok
    have sky' : Sky B (X.env :: X.outer) a (Zc cls d) X.env.locals s'.heap := by rw [← hs]; exact sky
    show wpAny (model X.prog X.w) X.A (noteFrame (.ref a) X.env) _ _ _
    refine Sky.land Zc.steady hfr hf sky' fun h3 fl3 up3 => ?_
    have go : ∀ {hds' : List ExceptHandler} {l' : List ((Value → Option Bool) × (Addr → Value → Option Addr → TS))}, ClsOk X hds' l' → ∀ h3, HandSPX.FlyingZ B (X.env :: X.outer) a (Zc cls d) h3 → s'.heap.UpToSlots h3 → wCls Wout D l' cls d σ' H' →
        wpAny (model X.prog X.w) X.A (handleBy (.ref a) X.env hds') (SP X pins D) X.xe { s' with heap := h3 } := by
      intro hds' l' hk
      have base : ∀ h3, HandSPX.FlyingZ B (X.env :: X.outer) a (Zc cls d) h3 → s'.heap.UpToSlots h3 → Inv X pins σ' H' { s' with heap := h3 } ∧ ∃ oe3 vs3, h3.get? a = some oe3 ∧ Zc cls d oe3 ∧ oe3.data = .fields vs3 ∧ a ≠ X.env.locals ∧ a ∉ X.fs := fun h3 fl3 up3 => by
        have J3 : Inv X pins σ' H' { s' with heap := h3 } := J.landed nb fl3.1 (up.trans up3) os ag
        obtain ⟨oe3, vs3, he3, hz3, hd3⟩ := fl3.there
        have notFr : ∀ {h : Heap} {o : Obj} {vs : Array Value}, h.FunFrames B (X.env :: X.outer) → h.get? a = some o → o.data = .fields vs → a ∉ frs (X.env :: X.outer) := fun {h o vs} ff e dd hm => by
          obtain ⟨_, o', e', hnf⟩ := ff.mem hm
          rw [e] at e'; cases e'
          exact hnf _ dd
        have nfr := notFr fl3.2.2.1 he3 hd3
        have nL : a ≠ X.env.locals := fun z => nfr (List.mem_filterMap.mpr ⟨X.env, List.mem_cons_self, by rw [hf, z]⟩)
        have nF : a ∉ X.fs := fun hm => by
          obtain ⟨e, he, q⟩ := List.mem_filterMap.mp hm
          exact nfr (List.mem_filterMap.mpr ⟨e, List.mem_cons_of_mem _ he, q⟩)
        exact ⟨J3, oe3, vs3, he3, hz3, hd3, nL, nF⟩
      have grow : ∀ h3 h', HandSPX.FlyingZ B (X.env :: X.outer) a (Zc cls d) h3 → (∀ q o, h3.get? q = some o → h'.get? q = some o) → HandSPX.FlyingZ B (X.env :: X.outer) a (Zc cls d) h' := fun h3 h' fl kp => by
        obtain ⟨k1, k2, k3, oe, vs, T, oT, ts', he, hz, hd, h1, hn, hne, hT, hdT, h4⟩ := fl
        exact ⟨fun b o e => kp b o (k1 b o e), k2, Heap.FunFrames.of_keeps (fun b o e _ => ⟨o, kp b o e, rfl⟩) k3, oe, vs, T, oT, ts', kp _ _ he, hz, hd, h1, hn, hne, kp _ _ hT, hdT, h4⟩
      induction hk with
      | nil =>
        intro h3 fl3 up3 w
        obtain ⟨J3, -⟩ := base h3 fl3 up3
        refine wpAny_handleBy_nil ?_
        obtain ⟨k1, k2, k3, oe, vs, T, oT, ts', he, hz, hd, h1, hr⟩ := id fl3
        unfold PySem.passOn
        refine wpAny_bind (wpAny_field he hd h1 ?_)
        rw [if_neg (show ¬ ((Value.ref T == Value.none) = true) from by simp)]
        have fin : wpAny (model X.prog X.w) X.A (setFlight (.ref a) X.env.frame) (fun _ s4 => wpAny (model X.prog X.w) X.A (throw (.ref a) : Sem Flow) (SP X pins D) X.xe s4) X.xe { s' with heap := h3 } := by
          rw [hf]
          refine HandSPX.setFlight_upZ fl3 fun h4 hh4 up4 => wpAny_throw (tk _ _ ?_)
          exact ⟨a, B, sI, pins, σ', H', cls, d, rfl, J, nb, (up.trans up3).trans up4, .inr (.inr (by rw [hs]; exact hh4)), na, os, ag, w⟩
        first
          | exact wpAny_bind (wpAny_pure (wpAny_bind fin))
          | exact wpAny_bind fin
      | @as t n i f ts b₀ suite pos' hds2 l2 ht hi hln hsu r ih =>
        intro h3 fl3 up3 w
        obtain ⟨J3, oe3, vs3, he3, hz3, hd3, nL, nF⟩ := base h3 fl3 up3
        have S3 := J3.suite he3 hd3 na nL nF
        obtain ⟨b, hb1, hyes, hno⟩ := w
        refine wpAny_handleBy_cons (codeAny_handlers_test ?_) (by intro q; cases q)
        have LT : PySem.W.Looks (model X.prog X.w) h3 (typeOf (.ref a)) cls := fun A Q E s k q => wpAny_typeOf_ref (k _ _ he3) (by rw [hz3.1]; exact q)
        refine ht a oe3 (X.pn ++ pins) σ' H' { s' with heap := h3 } cls b _ _ S3 LT hb1 fun h5 kp => ?_
        have fl5 := grow h3 h5 fl3 kp
        have up5 : s'.heap.UpToSlots h5 := up3.trans (Heap.UpToSlots.of_keeps kp)
        cases b with
        | true =>
          refine codeAny_handlers_suite_as ?_
          refine HandSPX.lands_againZ fl5 fun h4 fl4 up4 => ?_
          obtain ⟨J4, oe4, vs4, he4, hz4, hd4, nL4, nF4⟩ := base h4 fl4 (up5.trans up4)
          have S4 := J4.suite he4 hd4 na nL nF
          refine store_ok (X := X.suite a ((a, oe4) :: (X.pn ++ pins))) (v := .ref a) S4 hN hi (.inl hln) rfl (fun s5 S5 => ?_) (.inr hln)
          refine wpAny_mono ((hsu a oe4 cls d (X.pn ++ pins) hz4 ⟨_, hd4⟩).run [] s5 _ H' _ S5 (hyes rfl a na)) (fun f s6 hsp => ?_) (fun _ _ z => False.elim z)
          have end_ : ∀ {σ6 : L2.St} {H6 : Hp} {Q : Shared → Prop}, Inv (X.suite a ((a, oe4) :: (X.pn ++ pins))) [] σ6 H6 s6 → (∀ s7, Inv X pins (σ6.set i none) H6 s7 → Q s7) →
              wpAny (model X.prog X.w) X.A (do bindName X.env n .none; unbindBehindTheSuite X.env n pos') (fun _ s7 => Q s7) X.xe s6 := fun {σ6 H6 Q} S6 hq => gone_ok (S6.unsuite ok) hN hi hln hq
          cases f with
          | next =>
            obtain ⟨σ6, H6, S6, q6⟩ := hsp
            exact end_ S6 fun s7 J7 => ⟨_, _, J7, q6⟩
          | brk =>
            obtain ⟨σ6, H6, S6, q6⟩ := hsp
            exact end_ S6 fun s7 J7 => ⟨_, _, J7, q6⟩
          | cont =>
            obtain ⟨σ6, H6, S6, q6⟩ := hsp
            exact end_ S6 fun s7 J7 => ⟨_, _, J7, q6⟩
          | ret u =>
            obtain ⟨v6, σ6, H6, S6, r6, q6⟩ := hsp
            exact end_ S6 fun s7 J7 => ⟨_, _, _, J7, r6, q6⟩
        | false =>
          show wpAny _ X.A (handleBy (.ref a) X.env hds2) _ _ _
          exact ih h5 fl5 up5 (hno rfl)
      | @plain t f ts b₀ suite pos' hds2 l2 ht hsu r ih =>
        intro h3 fl3 up3 w
        obtain ⟨J3, oe3, vs3, he3, hz3, hd3, nL, nF⟩ := base h3 fl3 up3
        have S3 := J3.suite he3 hd3 na nL nF
        obtain ⟨b, hb1, hyes, hno⟩ := w
        refine wpAny_handleBy_cons (codeAny_handlers_test ?_) (by intro q; cases q)
        have LT : PySem.W.Looks (model X.prog X.w) h3 (typeOf (.ref a)) cls := fun A Q E s k q => wpAny_typeOf_ref (k _ _ he3) (by rw [hz3.1]; exact q)
        refine ht a oe3 (X.pn ++ pins) σ' H' { s' with heap := h3 } cls b _ _ S3 LT hb1 fun h5 kp => ?_
        have fl5 := grow h3 h5 fl3 kp
        have up5 : s'.heap.UpToSlots h5 := up3.trans (Heap.UpToSlots.of_keeps kp)
        cases b with
        | true =>
          refine codeAny_handlers_suite ?_
          refine HandSPX.lands_againZ fl5 fun h4 fl4 up4 => ?_
          obtain ⟨J4, oe4, vs4, he4, hz4, hd4, nL4, nF4⟩ := base h4 fl4 (up5.trans up4)
          have S4 := J4.suite he4 hd4 na nL nF
          refine wpAny_mono ((hsu a oe4 cls d (X.pn ++ pins) hz4 ⟨_, hd4⟩).run [] _ _ H' _ S4 (hyes rfl a na)) (fun f s6 hsp => ?_) (fun _ _ z => False.elim z)
          cases f with
          | next =>
            obtain ⟨σ6, H6, S6, q6⟩ := hsp
            exact ⟨_, _, S6.unsuite ok, q6⟩
          | brk =>
            obtain ⟨σ6, H6, S6, q6⟩ := hsp
            exact ⟨_, _, S6.unsuite ok, q6⟩
          | cont =>
            obtain ⟨σ6, H6, S6, q6⟩ := hsp
            exact ⟨_, _, S6.unsuite ok, q6⟩
          | ret u =>
            obtain ⟨v6, σ6, H6, S6, r6, q6⟩ := hsp
            exact ⟨_, _, _, S6.unsuite ok, r6, q6⟩
        | false =>
          show wpAny _ X.A (handleBy (.ref a) X.env hds2) _ _ _
          exact ih h5 fl5 up5 (hno rfl)
    exact go hh h3 fl3 up3 w
  · cases f with
    | next =>
      obtain ⟨σ', H', J', q⟩ := hsp
      exact wpAny_execs_nil ⟨σ', H', J'.ofTry ok, q⟩
    | brk =>
      obtain ⟨σ', H', J', q⟩ := hsp
      exact ⟨σ', H', J'.ofTry ok, q⟩
    | cont =>
      obtain ⟨σ', H', J', q⟩ := hsp
      exact ⟨σ', H', J'.ofTry ok, q⟩
    | ret u =>
      obtain ⟨v, σ', H', J', r, q⟩ := hsp
      exact ⟨v, σ', H', J'.ofTry ok, r, q⟩
end

/-! ### suites that tell by isinstance -/
def lkpR : List (Str × D) → Str → Option D
  | [], _ => none
  | (y, d) :: r, x => if x = y then some d else lkpR r x
def tryR (tb : List (Str × D)) (g : EnvS → Out) : EnvS → Out := fun ρ => match g ρ with
  | .ex x _ => (match lkpR tb x with
    | some d => .rt d
    | none => .no)
  | o => o
/-- the caught a stands at the place i -/
def AtE (i : Nat) (a : Addr) (σ : L2.St) : Prop := ∃ σ0 : L2.St, σ = σ0.set i (some (.ref a))
abbrev SelE (X : Cx) (i : Nat) (a : Addr) (e : Expr) (dd : D) : Prop := PE X e (fun σ H Q => AtE i a σ ∧ tD X.K X.mg W0 (rpE X.K) (cD dd) σ H Q)
def SelS (X : Cx) (i : Nat) (st : List Stmt) (c : Value) (dd : D) : Prop := ∀ (a : Addr) (oe : Obj) (pn : List (Addr × Obj)), Zc c none oe → (∃ vs, oe.data = .fields vs) →
  PSs (X.suite a ((a, oe) :: pn)) st (fun Dd σ H => AtE i a σ ∧ tS X.K X.mg W0 [] (fun _ => .rt dd) Dd σ H)
theorem sel_c {X : Cx} {i : Nat} {a : Addr} {e : Expr} {dd : D} (h : PD X W0 e (cD dd)) : SelE X i a e dd := h.wk fun _ _ _ q => q.2
theorem sel_isi {X : Cx} {i : Nat} {a C Dc : Addr} {oe : Obj} {pn : List (Addr × Obj)} {b : Bool} {n x : Str} {p p2 p3 p4 : Pos} (hE : ExcC X.K Dc) (hz : Zc (.ref Dc) none oe) (hf : ∃ vs, oe.data = .fields vs) (hk : PySem.W.kitOne X.K (.ref Dc) (.ref C) = some b)
    (hi : X.N[i]? = some n) (hln : Vis X.env.scope n) (hmx : X.mg x = some (.ref C)) (hm : X.mg "isinstance" = none) (hg : Gl X "isinstance") (hgx : Gl X x)
    (hdx : (x == ("__debug__" : Str)) = false) (hdn : (n == ("__debug__" : Str)) = false) (hcn : (n == ("__classdict__" : Str)) = false)
    (he : starEach [.Name n p2, .Name x p3] X.env = (false, eval (.Name n p2) X.env) :: starEach [.Name x p3] X.env := by rfl) (he2 : starEach [.Name x p3] X.env = (false, eval (.Name x p3) X.env) :: starEach [] X.env := by rfl)
    (hpl : (backTo p4 (starEach [.Name x p3] X.env)).any (·.1) = false := by rfl) :
    PT (X.suite a ((a, oe) :: pn)) (.Call (.Name "isinstance" p) [.Name n p2, .Name x p3] [] p4) (fun σ H Q => AtE i a σ ∧ Q b H) := by
  have hN : (X.suite a ((a, oe) :: pn)).N[i]? = some n := hi
  have h1 := pt_val (pe_callB (X := X.suite a ((a, oe) :: pn)) (pos := p4) (p := p) (x := "isinstance") (call_isE (pn := pn) hE hz hf) hg hm PyProof.Rows.boot_isinstance
    (pa_cons (pe_var (pos := p2) hN hln hdn hcn) (pa_cons (pe_glob (v := .ref C) (pos := p3) hgx hmx rfl hdx) pa_nil he2) he) (by decide) (by decide) he hpl)
  refine ⟨fun pins s σ H Q I h => h1.run pins s σ H Q I ?_⟩
  obtain ⟨⟨σ0, rfl⟩, q⟩ := h
  have hl : i < σ0.length := by
    have := I.len
    rw [List.length_set] at this
    rw [this]
    rcases Nat.lt_or_ge i X.N.length with z | z
    · exact z
    · rw [List.getElem?_eq_none z] at hi; cases hi
  exact ⟨.ref a, List.getElem?_set_self hl, .ref C, .ref C, b, rfl, fun u z => z, hk, b, rfl, q⟩
theorem pe_nv {X : Cx} {e : Expr} : PE X e (fun _ _ _ => False) := ⟨fun _ _ _ _ _ _ h => h.elim⟩
theorem sel_t {X : Cx} {i : Nat} {a : Addr} {c A B : Expr} {pos : Pos} {dd : D} (hc : PT X c (fun σ H Q => AtE i a σ ∧ Q true H)) (hA : SelE X i a A dd) : SelE X i a (.IfExp c A B pos) dd :=
  (pe_ifExp hc hA (pe_nv (e := B))).wk fun σ H Q q => ⟨q.1, by dsimp only; rw [if_pos rfl]; exact q⟩
theorem sel_f {X : Cx} {i : Nat} {a : Addr} {c A B : Expr} {pos : Pos} {dd : D} (hc : PT X c (fun σ H Q => AtE i a σ ∧ Q false H)) (hB : SelE X i a B dd) : SelE X i a (.IfExp c A B pos) dd :=
  (pe_ifExp hc (pe_nv (e := A)) hB).wk fun σ H Q q => ⟨q.1, by dsimp only; rw [if_neg Bool.false_ne_true]; exact q⟩
theorem sel_ret {X : Cx} {i : Nat} {e : Expr} {pos : Pos} {c : Value} {dd : D} (h : ∀ (a : Addr) (oe : Obj) (pn : List (Addr × Obj)), Zc c none oe → (∃ vs, oe.data = .fields vs) → SelE (X.suite a ((a, oe) :: pn)) i a e dd) : SelS X i [.Return (some e) pos] c dd :=
  fun a oe pn hz hf => pss_one ((ps_ret (h a oe pn hz hf)).wk fun Dd σ H ⟨q1, G0, H0, G, ρ, ok, q⟩ => ⟨q1, outE (k := fun d => .rt d) (Q1 := Dd.rt) (W := W0) (wr := []) (show PostS X.K X.mg W0 G0 H0 [] σ ρ G ((cD dd ρ).out ρ fun d => .rt d) Dd from q) ok
    fun d v G1 H1 _ e1 r1 ok1 q1 => q1 v G1 H1 ok1.ext r1⟩)
/-- a clause's part -/
abbrev CL := List ((Value → Option Bool) × Nat × List Stmt)
def tSl (X : Cx) (i : Nat) (st : List Stmt) : Addr → Value → Option Addr → TS := fun a cls d Dd σ H => d = none ∧ AtE i a σ ∧ ∃ dd, SelS X i st cls dd ∧ tS X.K X.mg W0 [] (fun _ => .rt dd) Dd σ H
def clsL (X : Cx) : CL → List ((Value → Option Bool) × (Addr → Value → Option Addr → TS))
  | [] => []
  | (f, i, st) :: r => (f, tAs i (tSl X i st)) :: clsL X r
inductive CSel (X : Cx) : List ExceptHandler → CL → Prop
  | nil : CSel X [] []
  | cons {t : Expr} {n : Str} {i : Nat} {f : Value → Option Bool} {b₀ : Stmt} {suite : List Stmt} {pos' : Pos} {hds : List ExceptHandler} {l : CL} (ht : TestT X t f) (r : CSel X hds l) (hi : X.N[i]? = some n := by rfl) (hln : X.env.kindOf n = some .local := by rfl) :
      CSel X (.ExceptHandler (some t) (some n) (b₀ :: suite) pos' :: hds) ((f, i, b₀ :: suite) :: l)
theorem CSel.ok {X : Cx} {hds : List ExceptHandler} {l : CL} (h : CSel X hds l) : ClsOk X hds (clsL X l) := by
  induction h with
  | nil => exact .nil
  | cons ht r hi hln ih =>
    exact .as ht hi hln (fun a oe cls d pn hz hf => ⟨fun pins s σ H D I h => by
      obtain ⟨rfl, e, dd, hP, q⟩ := h
      exact (hP a oe pn hz hf).run pins s σ H D I ⟨e, q⟩⟩) ih
inductive Hit (X : Cx) (c : Value) (dd : D) : CL → Prop
  | here {f : Value → Option Bool} {i : Nat} {st : List Stmt} {r : CL} (h : f c = some true) (s : SelS X i st c dd) : Hit X c dd ((f, i, st) :: r)
  | next {f : Value → Option Bool} {i : Nat} {st : List Stmt} {r : CL} (h : f c = some false) (t : Hit X c dd r) : Hit X c dd ((f, i, st) :: r)
theorem StOk.cut {K : PySem.W.Frag} {G0 H0 G H : Hp} {σ : L2.St} {ρ : EnvS} (ok : StOk K G0 H0 G H σ ρ) (i : Nat) (v : V) : StOk K G0 H0 G H (σ.set i (some v)) (ρ.set i none) := by
  refine ⟨ok.ext, by rw [List.length_set, List.length_set]; exact ok.len, ⟨fun j e h => ?_, fun j ds h => ?_, by rw [List.length_set, List.length_set]; exact ok.len⟩, fun j ds p h h' => ?_, fun j l ds es p hne h1 h2 h3 h4 => ?_⟩
  · rcases get_set h with ⟨rfl, e1, hl⟩ | ⟨hj, h⟩
    · cases e1
    · rw [List.getElem?_set_ne (Ne.symm hj)]; exact ok.env.pu j e h
  · rcases get_set h with ⟨rfl, e1, hl⟩ | ⟨hj, h⟩
    · cases e1
    · rw [List.getElem?_set_ne (Ne.symm hj)]; exact ok.env.ow j ds h
  · rcases get_set h with ⟨rfl, e1, hl⟩ | ⟨hj, h⟩
    · cases e1
    · rw [List.getElem?_set_ne (Ne.symm hj)] at h'; exact ok.own j ds p h h'
  · rcases get_set h1 with ⟨rfl, e1, hl⟩ | ⟨hj, h1⟩
    · cases e1
    rcases get_set h2 with ⟨rfl, e1, hl⟩ | ⟨hl, h2⟩
    · cases e1
    rw [List.getElem?_set_ne (Ne.symm hj)] at h3
    rw [List.getElem?_set_ne (Ne.symm hl)] at h4
    exact ok.inj j l ds es p hne h1 h2 h3 h4
theorem Hit.wish {X : Cx} {W : WX} {c : Value} {dd : D} {l : CL} (h : Hit X c dd l) {G0 H0 G H : Hp} {σ : L2.St} {ρ : EnvS} (ok : StOk X.K G0 H0 G H σ ρ) {Dd : Ends} (q : ∀ v G' H', Ext G0 H0 G' H' → Rp X.K G' v dd → Dd.rt v H') : wCls W Dd (clsL X l) c none σ H := by
  induction h with
  | here h s =>
    exact ⟨true, h, fun _ a na => ⟨rfl, ⟨σ, rfl⟩, dd, s, G0, H0, G, _, ok.cut _ _, q⟩, fun z => nomatch z⟩
  | next h t ih => exact ⟨false, h, fun z => (nomatch z), fun _ => ih⟩
theorem lkpR_mem {tb : List (Str × D)} {x : Str} {d : D} (h : lkpR tb x = some d) : (x, d) ∈ tb := by
  induction tb with
  | nil => cases h
  | cons p r ih =>
    unfold lkpR at h
    split at h
    · rename_i e
      cases h
      rw [e]
      exact List.mem_cons_self
    · exact List.mem_cons_of_mem _ (ih h)
section
variable {X : Cx} {W : WX} {wr : List Nat} {pos : Pos}
theorem s_tryR {tb : List (Str × D)} {body : List Stmt} {h₀ : ExceptHandler} {hds : List ExceptHandler} {g : EnvS → Out} {l : CL} (tk : Takes X W)
    (hb : ∀ (W' : WX) (pn : List (Addr × Obj)) (xe : Value → Shared → Prop), Takes (X.tr pn xe) W' → PassesOwn (model X.prog X.w) X.A X.env xe → PSsD (X.tr pn xe) W' wr body g) (hh : CSel X (h₀ :: hds) l)
    (hT : ∀ x d, (x, d) ∈ tb → ∀ c, X.mg x = some c → Hit X c d l)
    (hs : X.stack = X.env :: X.outer := by rfl) (hf : X.env.frame = some X.env.locals := by rfl) (hN : X.N.Nodup := by decide) : PSD X W wr (.Try body (h₀ :: hds) [] [] pos) (tryR tb g) :=
  (ps_try_cls (tb := fun W' => tS X.K X.mg W' wr g) hs hf hN tk (fun W' pn xe t p => hb W' pn xe t p) hh.ok).wk fun Dd σ H ⟨G0, H0, G, ρ, ok, q⟩ => by
    refine ⟨G0, H0, G, ρ, ok, ?_⟩
    unfold tryR at q
    cases eg : g ρ with
    | nx ρ2 => rw [eg] at q; exact q
    | rt d => rw [eg] at q; exact q
    | bk ρ2 => rw [eg] at q; exact q
    | ct ρ2 => rw [eg] at q; exact q
    | ex x ρ1 =>
      rw [eg] at q
      dsimp only at q
      cases el : lkpR tb x with
      | none => rw [el] at q; exact q.elim
      | some d =>
        rw [el] at q
        exact fun c σ' G' H' m ok' sg fr => (hT x d (lkpR_mem el) c m).wish ok' q
    | no => rw [eg] at q; exact q
end
theorem hT_nil {X : Cx} {l : CL} : ∀ x d, (x, d) ∈ ([] : List (Str × D)) → ∀ c, X.mg x = some c → Hit X c d l := fun _ _ h => nomatch h
theorem hT_cons {X : Cx} {l : CL} {y : Str} {d0 : D} {tb : List (Str × D)} {c0 : Value} (hm : X.mg y = some c0) (h : Hit X c0 d0 l) (r : ∀ x d, (x, d) ∈ tb → ∀ c, X.mg x = some c → Hit X c d l) :
    ∀ x d, (x, d) ∈ (y, d0) :: tb → ∀ c, X.mg x = some c → Hit X c d l := fun x d h' c hc => by
  rcases List.mem_cons.mp h' with e | h'
  · cases e
    cases hm.symm.trans hc
    exact h
  · exact r x d h' c hc
end TD

namespace Dn
open PySem PySem.Spec PyProof.Rows L2 TD
def c_FORM : D := (.tuple [(.str "form")])
noncomputable def b__law_draws : EnvS → Out :=
  (sqO (owO 2 (newD nilA))
  (sqO (stO 3 (cD (.int 7)))
  (sqO (loO (seqF (lstF (slcL (asSF (varD 0)) noP (someP (cD (.int 63)))))) (nmG 4)
  (sqO (stO 5 (callF absK (consA (varD 4) nilA)))
  (sqO (stO 3 (bin2 modD (callF intG (consA (bin2 addD (bin2 addD (bin2 mulD (varD 3) (cD (.int 48271))) (varD 5)) (cD (.int 11))) nilA)) (cD (.int 2147483647))))
  (ifO (asF (bin2 geD (varD 5) (bin2 powD (cD (.int 10)) (cD (.int 18)))))
  (loO (rng1F (cD (.int 60))) (nmG 6)
  (ifO (asF (bin2 gtD (varD 5) (cD (.int 0))))
  (sqO (appO 2 (bin2 modD (callF intG (consA (varD 5) nilA)) (cD (.int 1009))))
  (stO 5 (bin2 fdivD (varD 5) (cD (.int 1009)))))
  nxO))
  (appO 2 (bin2 modD (bin2 fdivD (callF intG (consA (bin2 addD (bin2 mulD (varD 3) (cD (.int 16807))) (cD (.int 5))) nilA)) (cD (.int 3))) (cD (.int 65521))))))))
  (sqO (loO (rng1F (varD 1)) (nmG 6)
  (ifO (asF (bin2 ltD (callF (fun ds => .ok (.int ds.length)) (ownD 2)) (varD 1)))
  (sqO (stO 3 (bin2 modD (callF intG (consA (bin2 addD (bin2 addD (bin2 mulD (varD 3) (cD (.int 69621))) (varD 6)) (cD (.int 1))) nilA)) (cD (.int 2147483647))))
  (appO 2 (bin2 modD (bin2 fdivD (callF intG (consA (varD 3) nilA)) (cD (.int 7))) (cD (.int 65521)))))
  nxO))
  (rtO (lstF (slcL (ownD 2) noP (someP (varD 1)))))))))
noncomputable def v__law_draws : List D → R D := fnR 7 b__law_draws
noncomputable def b__law_frac : EnvS → Out :=
  (sqO (parO 2 3 (consA (callF absK (consA (varD 0) nilA)) (consA (varD 1) nilA)))
  (sqO (whX (asF (bin2 gtD (varD 3) (cD (.int 0))))
  (parO 2 3 (consA (varD 3) (consA (bin2 modD (varD 2) (varD 3)) nilA))))
  (rtO (tupD (consA (bin2 fdivD (varD 0) (varD 2)) (consA (bin2 fdivD (varD 1) (varD 2)) nilA))))))
noncomputable def v__law_frac : List D → R D := fnR 4 b__law_frac
noncomputable def b__law_plus : EnvS → Out :=
  (rtO (callU 2 v__law_frac (consA (bin2 addD (bin2 mulD (bin2 ixD (varD 0) (cD (.int 0))) (bin2 ixD (varD 1) (cD (.int 1)))) (bin2 mulD (bin2 ixD (varD 1) (cD (.int 0))) (bin2 ixD (varD 0) (cD (.int 1))))) (consA (bin2 mulD (bin2 ixD (varD 0) (cD (.int 1))) (bin2 ixD (varD 1) (cD (.int 1)))) nilA))))
noncomputable def v__law_plus : List D → R D := fnR 2 b__law_plus
noncomputable def b__law_boxes : EnvS → Out :=
  (sqO (owO 2 (newD nilA))
  (sqO (loO (rng1F (varD 1)) (nmG 3)
  (sqO (owO 4 (newD nilA))
  (sqO (loO (seqF (tupD (consA (cD (.int 0)) (consA (cD (.int 1)) nilA)))) (nmG 5)
  (sqO (stO 6 (callU 2 v__law_frac (consA (bin2 subD (bin2 modD (callF intG (consA (bin2 ixD (varD 0) (bin2 addD (bin2 mulD (cD (.int 4)) (varD 3)) (varD 5))) nilA)) (cD (.int 25))) (cD (.int 12))) (consA (bin2 addD (cD (.int 1)) (bin2 modD (bin2 fdivD (callF intG (consA (bin2 ixD (varD 0) (bin2 addD (bin2 mulD (cD (.int 4)) (varD 3)) (varD 5))) nilA)) (cD (.int 25))) (cD (.int 3)))) nilA))))
  (appO 4 (tupD (consA (varD 6) (consA (callU 2 v__law_plus (consA (varD 6) (consA (callU 2 v__law_frac (consA (bin2 modD (callF intG (consA (bin2 ixD (varD 0) (bin2 addD (bin2 addD (bin2 mulD (cD (.int 4)) (varD 3)) (cD (.int 2))) (varD 5))) nilA)) (cD (.int 9))) (consA (bin2 addD (cD (.int 1)) (bin2 modD (bin2 fdivD (callF intG (consA (bin2 ixD (varD 0) (bin2 addD (bin2 addD (bin2 mulD (cD (.int 4)) (varD 3)) (cD (.int 2))) (varD 5))) nilA)) (cD (.int 9))) (cD (.int 2)))) nilA))) nilA))) nilA))))))
  (appO 2 (callF (fun ds => .ok (.tuple ds)) (ownD 4))))))
  (rtO (callF (fun ds => .ok (.tuple ds)) (ownD 2)))))
noncomputable def v__law_boxes : List D → R D := fnR 7 b__law_boxes
noncomputable def b_order : EnvS → Out :=
  (sqO (stO 2 (bin2 subD (bin2 mulD (bin2 ixD (varD 0) (cD (.int 0))) (bin2 ixD (varD 1) (cD (.int 1)))) (bin2 mulD (bin2 ixD (varD 1) (cD (.int 0))) (bin2 ixD (varD 0) (cD (.int 1))))))
  (rtO (ifD (asF (bin2 eqD (varD 2) (cD (.int 0)))) (cD (.int 0)) (ifD (asF (bin2 gtD (varD 2) (cD (.int 0)))) (cD (.int 1)) (un1 negD (cD (.int 1)))))))
noncomputable def v_order : List D → R D := fnR 3 b_order
noncomputable def b_is_integer : EnvS → Out :=
  (rtO (andV (isiD "int" (varD 0)) (notV (isiD "bool" (varD 0)))))
noncomputable def v_is_integer : List D → R D := fnR 1 b_is_integer
noncomputable def b_divisor : EnvS → Out :=
  (sqO (parO 0 1 (consA (callF absK (consA (varD 0) nilA)) (consA (callF absK (consA (varD 1) nilA)) nilA)))
  (sqO (whX (asF (bin2 gtD (varD 1) (cD (.int 0))))
  (parO 0 1 (consA (varD 1) (consA (bin2 modD (varD 0) (varD 1)) nilA))))
  (rtO (varD 0))))
noncomputable def v_divisor : List D → R D := fnR 2 b_divisor
noncomputable def b_is_number : EnvS → Out :=
  (sqO (ifO (orB (notB (asF (isiD "tuple" (varD 0)))) (orB (asF (bin2 neD (callF lenK (consA (varD 0) nilA)) (cD (.int 2)))) (orB (notB (asF (callU 1 v_is_integer (consA (bin2 ixD (varD 0) (cD (.int 0))) nilA)))) (notB (asF (callU 1 v_is_integer (consA (bin2 ixD (varD 0) (cD (.int 1))) nilA)))))))
  (rtO (cD (.bool false)))
  nxO)
  (rtO (andV (bin2 geD (bin2 ixD (varD 0) (cD (.int 1))) (cD (.int 1))) (bin2 eqD (callU 2 v_divisor (consA (bin2 ixD (varD 0) (cD (.int 0))) (consA (bin2 ixD (varD 0) (cD (.int 1))) nilA))) (cD (.int 1))))))
noncomputable def v_is_number : List D → R D := fnR 1 b_is_number
noncomputable def b_is_span : EnvS → Out :=
  (sqO (ifO (orB (notB (asF (isiD "tuple" (varD 0)))) (orB (asF (bin2 neD (callF lenK (consA (varD 0) nilA)) (cD (.int 2)))) (orB (notB (asF (callU 1 v_is_number (consA (bin2 ixD (varD 0) (cD (.int 0))) nilA)))) (notB (asF (callU 1 v_is_number (consA (bin2 ixD (varD 0) (cD (.int 1))) nilA)))))))
  (rtO (cD (.bool false)))
  nxO)
  (rtO (bin2 leD (callU 2 v_order (consA (bin2 ixD (varD 0) (cD (.int 0))) (consA (bin2 ixD (varD 0) (cD (.int 1))) nilA))) (cD (.int 0)))))
noncomputable def v_is_span : List D → R D := fnR 1 b_is_span
noncomputable def b_is_box : EnvS → Out :=
  (rtO (andV (isiD "tuple" (varD 0)) (andV (bin2 eqD (callF lenK (consA (varD 0) nilA)) (cD (.int 2))) (andV (callU 1 v_is_span (consA (bin2 ixD (varD 0) (cD (.int 0))) nilA)) (callU 1 v_is_span (consA (bin2 ixD (varD 0) (cD (.int 1))) nilA))))))
noncomputable def v_is_box : List D → R D := fnR 1 b_is_box
noncomputable def b_check_boxes : EnvS → Out :=
  (ifO (orB (notB (asF (isiD "tuple" (varD 0)))) (orB (asF (bin2 gtD (callF lenK (consA (varD 0) nilA)) (cD (.int 60)))) (notB (asF (callF allK (lcF (seqF (varD 0)) (nmG 1) yesB (callU 1 v_is_box (consA (varD 1) nilA)) [1]))))))
  (fun ρ => .ex "BadBoxes" ρ)
  nxO)
noncomputable def v_check_boxes : List D → R D := fnR 2 b_check_boxes
noncomputable def b_least_of : EnvS → Out :=
  (sqO (stO 1 (bin2 ixD (varD 0) (cD (.int 0))))
  (sqO (loO (seqF (slcG (varD 0) (someP (cD (.int 1))) noP)) (nmG 2)
  (ifO (asF (bin2 ltD (callU 2 v_order (consA (varD 2) (consA (varD 1) nilA))) (cD (.int 0))))
  (stO 1 (varD 2))
  nxO))
  (rtO (varD 1))))
noncomputable def v_least_of : List D → R D := fnR 3 b_least_of
noncomputable def b_greatest_of : EnvS → Out :=
  (sqO (stO 1 (bin2 ixD (varD 0) (cD (.int 0))))
  (sqO (loO (seqF (slcG (varD 0) (someP (cD (.int 1))) noP)) (nmG 2)
  (ifO (asF (bin2 gtD (callU 2 v_order (consA (varD 2) (consA (varD 1) nilA))) (cD (.int 0))))
  (stO 1 (varD 2))
  nxO))
  (rtO (varD 1))))
noncomputable def v_greatest_of : List D → R D := fnR 3 b_greatest_of
noncomputable def b__span_around : EnvS → Out :=
  (rtO (tupD (consA (callU 1 v_least_of (consA (lstF (lcF (seqF (varD 0)) (nmG 1) yesB (bin2 ixD (varD 1) (cD (.int 0))) [1])) nilA)) (consA (callU 1 v_greatest_of (consA (lstF (lcF (seqF (varD 0)) (nmG 1) yesB (bin2 ixD (varD 1) (cD (.int 1))) [1])) nilA)) nilA))))
noncomputable def v__span_around : List D → R D := fnR 2 b__span_around
noncomputable def b_around_by : EnvS → Out :=
  (rtO (tupD (consA (callU 1 v__span_around (consA (lstF (lcF (seqF (varD 0)) (nmG 1) yesB (bin2 ixD (varD 1) (cD (.int 0))) [1])) nilA)) (consA (callU 1 v__span_around (consA (lstF (lcF (seqF (varD 0)) (nmG 1) yesB (bin2 ixD (varD 1) (cD (.int 1))) [1])) nilA)) nilA))))
noncomputable def v_around_by : List D → R D := fnR 2 b_around_by
noncomputable def b__is_ahead : EnvS → Out :=
  (sqO (stO 2 (callU 2 v_order (consA (bin2 ixD (varD 0) (cD (.int 0))) (consA (bin2 ixD (varD 1) (cD (.int 0))) nilA))))
  (rtO (orV (bin2 ltD (varD 2) (cD (.int 0))) (andV (bin2 eqD (varD 2) (cD (.int 0))) (bin2 ltD (bin2 ixD (varD 0) (cD (.int 1))) (bin2 ixD (varD 1) (cD (.int 1))))))))
noncomputable def v__is_ahead : List D → R D := fnR 3 b__is_ahead
noncomputable def b_in_order : EnvS → Out :=
  (sqO (stO 1 (lstF (newD nilA)))
  (sqO (loO (seqF (varD 0)) (nmG 2)
  (sqO (stO 3 (callF lenK (consA (varD 1) nilA)))
  (sqO (whX (andB (asF (bin2 gtD (varD 3) (cD (.int 0)))) (asF (callU 2 v__is_ahead (consA (varD 2) (consA (bin2 ixD (varD 1) (bin2 subD (varD 3) (cD (.int 1)))) nilA)))))
  (augO 3 subD (cD (.int 1))))
  (stO 1 (lstF (catL (catL (asLF (slcG (varD 1) noP (someP (varD 3)))) (newD (consA (varD 2) nilA))) (asLF (slcG (varD 1) (someP (varD 3)) noP))))))))
  (rtO (varD 1))))
noncomputable def v_in_order : List D → R D := fnR 4 b_in_order
noncomputable def b_made : EnvS → Out :=
  (sqO (stO 2 (callU 2 v_divisor (consA (varD 0) (consA (varD 1) nilA))))
  (sqO (ifO (asF (bin2 ltD (varD 1) (cD (.int 0))))
  (stO 2 (bin2 subD (cD (.int 0)) (varD 2)))
  nxO)
  (rtO (tupD (consA (bin2 fdivD (varD 0) (varD 2)) (consA (bin2 fdivD (varD 1) (varD 2)) nilA))))))
noncomputable def v_made : List D → R D := fnR 3 b_made
noncomputable def b_difference : EnvS → Out :=
  (rtO (callU 2 v_made (consA (bin2 subD (bin2 mulD (bin2 ixD (varD 0) (cD (.int 0))) (bin2 ixD (varD 1) (cD (.int 1)))) (bin2 mulD (bin2 ixD (varD 1) (cD (.int 0))) (bin2 ixD (varD 0) (cD (.int 1))))) (consA (bin2 mulD (bin2 ixD (varD 0) (cD (.int 1))) (bin2 ixD (varD 1) (cD (.int 1)))) nilA))))
noncomputable def v_difference : List D → R D := fnR 2 b_difference
noncomputable def b_sum_of : EnvS → Out :=
  (rtO (callU 2 v_made (consA (bin2 addD (bin2 mulD (bin2 ixD (varD 0) (cD (.int 0))) (bin2 ixD (varD 1) (cD (.int 1)))) (bin2 mulD (bin2 ixD (varD 1) (cD (.int 0))) (bin2 ixD (varD 0) (cD (.int 1))))) (consA (bin2 mulD (bin2 ixD (varD 0) (cD (.int 1))) (bin2 ixD (varD 1) (cD (.int 1)))) nilA))))
noncomputable def v_sum_of : List D → R D := fnR 2 b_sum_of
noncomputable def b__made (self : List D → R D) : EnvS → Out :=
  (sqO (ifO (asF (bin2 eqD (callF lenK (consA (varD 1) nilA)) (cD (.int 1))))
  (rtO (tupD (consA (cD (.str "leaf")) (consA (bin2 ixD (varD 1) (cD (.int 0))) nilA))))
  nxO)
  (sqO (stO 2 (callU 1 v_around_by (consA (lstF (lcF (seqF (varD 1)) (nmG 10) yesB (bin2 ixD (varD 0) (varD 10)) [10])) nilA)))
  (sqO (stO 3 (lstF (lcF (seqF (varD 2)) (nmG 8) yesB (callU 2 v_difference (consA (bin2 ixD (varD 8) (cD (.int 1))) (consA (bin2 ixD (varD 8) (cD (.int 0))) nilA))) [8])))
  (sqO (stO 4 (ifD (asF (bin2 gtD (callU 2 v_order (consA (bin2 ixD (varD 3) (cD (.int 1))) (consA (bin2 ixD (varD 3) (cD (.int 0))) nilA))) (cD (.int 0)))) (cD (.int 1)) (cD (.int 0))))
  (sqO (stO 5 (callU 1 v_in_order (consA (lstF (lcF (seqF (varD 1)) (nmG 10) yesB (tupD (consA (callU 2 v_sum_of (consA (bin2 ixD (bin2 ixD (bin2 ixD (varD 0) (varD 10)) (varD 4)) (cD (.int 0))) (consA (bin2 ixD (bin2 ixD (bin2 ixD (varD 0) (varD 10)) (varD 4)) (cD (.int 1))) nilA))) (consA (varD 10) nilA))) [10])) nilA)))
  (sqO (stO 6 (bin2 fdivD (bin2 addD (callF lenK (consA (varD 5) nilA)) (cD (.int 1))) (cD (.int 2))))
  (sqO (stO 7 (lstF (lcF (seqF (varD 5)) (tupG 2 (consG (nmG 9) (consG (nmG 10) nilG))) yesB (varD 10) [9, 10])))
  (rtO (tupD (consA (cD (.str "fork")) (consA (varD 2) (consA (callU 2 self (consA (varD 0) (consA (slcG (varD 7) noP (someP (varD 6))) nilA))) (consA (callU 2 self (consA (varD 0) (consA (slcG (varD 7) (someP (varD 6)) noP) nilA))) nilA)))))))))))))
noncomputable def w__made : Nat → List D → R D
  | 0 => fun _ => .no
  | n + 1 => fnR 11 (b__made (w__made n))
noncomputable def v__made : List D → R D := w__made 64
noncomputable def b_tree_of : EnvS → Out :=
  (sqO (exO (callU 1 v_check_boxes (consA (varD 0) nilA)))
  (sqO (ifO (asF (bin2 eqD (callF lenK (consA (varD 0) nilA)) (cD (.int 0))))
  (fun ρ => .ex "BadBoxes" ρ)
  nxO)
  (rtO (callU 2 v__made (consA (varD 0) (consA (lstF (rgNew (callF lenK (consA (varD 0) nilA)))) nilA))))))
noncomputable def v_tree_of : List D → R D := fnR 1 b_tree_of
noncomputable def b__law_is_number : EnvS → Out :=
  (sqO (ifO (orB (notB (asF (isiD "tuple" (varD 0)))) (orB (asF (bin2 neD (callF lenK (consA (varD 0) nilA)) (cD (.int 2)))) (notB (asF (callF allK (lcF (seqF (varD 0)) (nmG 1) yesB (andV (isiD "int" (varD 1)) (notV (isiD "bool" (varD 1)))) [1]))))))
  (rtO (cD (.bool false)))
  nxO)
  (rtO (andV (bin2 gtD (bin2 ixD (varD 0) (cD (.int 1))) (cD (.int 0))) (bin2 eqD (callU 2 v__law_frac (consA (bin2 ixD (varD 0) (cD (.int 0))) (consA (bin2 ixD (varD 0) (cD (.int 1))) nilA))) (varD 0)))))
noncomputable def v__law_is_number : List D → R D := fnR 2 b__law_is_number
noncomputable def b__law_less : EnvS → Out :=
  (rtO (bin2 ltD (bin2 mulD (bin2 ixD (varD 0) (cD (.int 0))) (bin2 ixD (varD 1) (cD (.int 1)))) (bin2 mulD (bin2 ixD (varD 1) (cD (.int 0))) (bin2 ixD (varD 0) (cD (.int 1))))))
noncomputable def v__law_less : List D → R D := fnR 2 b__law_less
noncomputable def b__law_is_box : EnvS → Out :=
  (sqO (ifO (orB (notB (asF (isiD "tuple" (varD 0)))) (orB (asF (bin2 neD (callF lenK (consA (varD 0) nilA)) (cD (.int 2)))) (notB (asF (callF allK (lcF (seqF (varD 0)) (nmG 1) yesB (andV (isiD "tuple" (varD 1)) (bin2 eqD (callF lenK (consA (varD 1) nilA)) (cD (.int 2)))) [1]))))))
  (rtO (cD (.bool false)))
  nxO)
  (rtO (callF allK (lcF (seqF (varD 0)) (nmG 1) yesB (andV (callU 1 v__law_is_number (consA (bin2 ixD (varD 1) (cD (.int 0))) nilA)) (andV (callU 1 v__law_is_number (consA (bin2 ixD (varD 1) (cD (.int 1))) nilA)) (notV (callU 2 v__law_less (consA (bin2 ixD (varD 1) (cD (.int 1))) (consA (bin2 ixD (varD 1) (cD (.int 0))) nilA)))))) [1]))))
noncomputable def v__law_is_box : List D → R D := fnR 2 b__law_is_box
noncomputable def b_check_boxes_all : EnvS → Out :=
  (ifO (notB (asF (callF allK (lcF (seqF (varD 0)) (nmG 1) yesB (callU 1 v_is_box (consA (varD 1) nilA)) [1]))))
  (fun ρ => .ex "BadBox" ρ)
  nxO)
noncomputable def v_check_boxes_all : List D → R D := fnR 2 b_check_boxes_all
noncomputable def b_spans_meet : EnvS → Out :=
  (rtO (andV (bin2 leD (callU 2 v_order (consA (bin2 ixD (varD 0) (cD (.int 0))) (consA (bin2 ixD (varD 1) (cD (.int 1))) nilA))) (cD (.int 0))) (bin2 leD (callU 2 v_order (consA (bin2 ixD (varD 1) (cD (.int 0))) (consA (bin2 ixD (varD 0) (cD (.int 1))) nilA))) (cD (.int 0)))))
noncomputable def v_spans_meet : List D → R D := fnR 2 b_spans_meet
noncomputable def b_boxes_meet_by : EnvS → Out :=
  (rtO (andV (callU 2 v_spans_meet (consA (bin2 ixD (varD 0) (cD (.int 0))) (consA (bin2 ixD (varD 1) (cD (.int 0))) nilA))) (callU 2 v_spans_meet (consA (bin2 ixD (varD 0) (cD (.int 1))) (consA (bin2 ixD (varD 1) (cD (.int 1))) nilA)))))
noncomputable def v_boxes_meet_by : List D → R D := fnR 2 b_boxes_meet_by
noncomputable def v_lk : D → D → D → R (List D × Int) := lkN v_boxes_meet_by 64
noncomputable def b_boxes_meet : EnvS → Out :=
  (sqO (exO (callU 1 v_check_boxes_all (consA (tupD (consA (varD 0) (consA (varD 1) nilA))) nilA)))
  (rtO (callU 2 v_boxes_meet_by (consA (varD 0) (consA (varD 1) nilA)))))
noncomputable def v_boxes_meet : List D → R D := fnR 2 b_boxes_meet
noncomputable def b_box_around : EnvS → Out :=
  (sqO (ifO (orB (notB (asF (isiD "tuple" (varD 0)))) (asF (bin2 eqD (callF lenK (consA (varD 0) nilA)) (cD (.int 0)))))
  (fun ρ => .ex "BadBox" ρ)
  nxO)
  (sqO (exO (callU 1 v_check_boxes_all (consA (varD 0) nilA)))
  (rtO (callU 1 v_around_by (consA (varD 0) nilA)))))
noncomputable def v_box_around : List D → R D := fnR 1 b_box_around
noncomputable def b_swept_by : EnvS → Out :=
  (sqO (owO 1 (newD nilA))
  (sqO (loO (enuA (varD 0)) (tupG 2 (consG (nmG 2) (consG (nmG 3) nilG)))
  (sqO (appO 1 (tupD (consA (bin2 ixD (bin2 ixD (varD 3) (cD (.int 0))) (cD (.int 0))) (consA (tupD (consA (cD (.int 0)) (consA (varD 2) nilA))) nilA))))
  (appO 1 (tupD (consA (bin2 ixD (bin2 ixD (varD 3) (cD (.int 0))) (cD (.int 1))) (consA (tupD (consA (cD (.int 1)) (consA (varD 2) nilA))) nilA))))))
  (rtF (lstF (lcF (seqF (callU 1 v_in_order (consA (varD 1) nilA))) (tupG 2 (consG (nmG 4) (consG (tupG 2 (consG (nmG 5) (consG (nmG 2) nilG))) nilG))) yesB (tupD (consA (bin2 ixD (tupD (consA (cD (.str "in")) (consA (cD (.str "out")) nilA))) (varD 5)) (consA (varD 2) nilA))) [4, 5, 2])))))
noncomputable def v_swept_by : List D → R D := fnR 6 b_swept_by
noncomputable def b_sweep_row : EnvS → Out :=
  (sqO (exO (callU 1 v_check_boxes (consA (varD 0) nilA)))
  (rtO (callF tupK (consA (callU 1 v_swept_by (consA (varD 0) nilA)) nilA))))
noncomputable def v_sweep_row : List D → R D := fnR 1 b_sweep_row
noncomputable def b_sweep_pairs : EnvS → Out :=
  (sqO (exO (callU 1 v_check_boxes (consA (varD 0) nilA)))
  (sqO (parNO 1 2 (newD nilA) (newD nilA))
  (sqO (loO (seqF (callU 1 v_swept_by (consA (varD 0) nilA))) (tupG 2 (consG (nmG 3) (consG (nmG 4) nilG)))
  (sqO (ifO (asF (bin2 eqD (varD 3) (cD (.str "out"))))
  (sqO (remO 2 (varD 4))
  (fun ρ => .ct ρ))
  nxO)
  (sqO (loO (ownD 2) (nmG 5)
  (ifO (asF (callU 2 v_spans_meet (consA (bin2 ixD (bin2 ixD (varD 0) (varD 4)) (cD (.int 1))) (consA (bin2 ixD (bin2 ixD (varD 0) (varD 5)) (cD (.int 1))) nilA))))
  (appO 1 (tupD (consA (callF min2K (consA (varD 4) (consA (varD 5) nilA))) (consA (callF max2K (consA (varD 4) (consA (varD 5) nilA))) nilA))))
  nxO))
  (appO 2 (varD 4)))))
  (rtO (callF (fun ds => .ok (.tuple ds)) (callN sortK (ownD 1)))))))
noncomputable def v_sweep_pairs : List D → R D := fnR 6 b_sweep_pairs
noncomputable def b__is_within : EnvS → Out :=
  (rtO (bin2 eqD (callU 1 v_around_by (consA (lstF (newD (consA (varD 0) (consA (varD 1) nilA)))) nilA)) (varD 1)))
noncomputable def v__is_within : List D → R D := fnR 2 b__is_within
noncomputable def b_numbers_in : EnvS → Out :=
  (sqO (parNO 1 2 (newD nilA) (newD (consA (varD 0) nilA)))
  (sqO (whX (asF (bin2 gtD (callF (fun ds => .ok (.int ds.length)) (ownD 2)) (cD (.int 0))))
  (sqO (popS 2 3)
  (ifO (asF (bin2 eqD (bin2 ixD (varD 3) (cD (.int 0))) (cD (.str "leaf"))))
  (appO 1 (bin2 ixD (varD 3) (cD (.int 1))))
  (extO 2 (newD (consA (bin2 ixD (varD 3) (cD (.int 3))) (consA (bin2 ixD (varD 3) (cD (.int 2))) nilA)))))))
  (fun ρ => (ownD 1 ρ).out ρ fun ds => .rt (.list ds))))
noncomputable def v_numbers_in : List D → R D := fnR 4 b_numbers_in
noncomputable def b__fork_fault (self : List D → R D) : EnvS → Out :=
  (sqO (ifO (asF (bin2 eqD (bin2 ixD (varD 1) (cD (.int 0))) (cD (.str "leaf"))))
  (rtO (cD .none))
  nxO)
  (sqO (ifO (notB (asF (callF allK (lcF (seqF (callU 1 v_numbers_in (consA (varD 1) nilA))) (nmG 4) yesB (callU 2 v__is_within (consA (bin2 ixD (varD 0) (varD 4)) (consA (bin2 ixD (varD 1) (cD (.int 1))) nilA))) [4]))))
  (rtO (varD 2))
  nxO)
  (sqO (stO 3 (callU 3 self (consA (varD 0) (consA (bin2 ixD (varD 1) (cD (.int 2))) (consA (bin2 addD (varD 2) (tupD (consA (cD (.int 0)) nilA))) nilA)))))
  (rtO (ifD (asF (bin2 notND (varD 3) (cD .none))) (varD 3) (callU 3 self (consA (varD 0) (consA (bin2 ixD (varD 1) (cD (.int 3))) (consA (bin2 addD (varD 2) (tupD (consA (cD (.int 1)) nilA))) nilA)))))))))
noncomputable def w__fork_fault : Nat → List D → R D
  | 0 => fun _ => .no
  | n + 1 => fnR 5 (b__fork_fault (w__fork_fault n))
noncomputable def v__fork_fault : List D → R D := w__fork_fault 64
noncomputable def b__is_tree : EnvS → Out :=
  (sqO (owO 1 (newD (consA (tupD (consA (varD 0) (consA (cD (.int 0)) nilA))) nilA)))
  (sqO (whX (asF (bin2 gtD (callF (fun ds => .ok (.int ds.length)) (ownD 1)) (cD (.int 0))))
  (sqO (popU 1 (tupG 2 (consG (nmG 2) (consG (nmG 3) nilG))))
  (sqO (ifO (orB (notB (asF (isiD "tuple" (varD 2)))) (orB (asF (bin2 notInG (callF lenK (consA (varD 2) nilA)) (tupD (consA (cD (.int 2)) (consA (cD (.int 4)) nilA))))) (orB (notB (asF (isiD "str" (bin2 ixD (varD 2) (cD (.int 0)))))) (asF (bin2 gtD (varD 3) (cD (.int 60)))))))
  (rtO (cD (.bool false)))
  nxO)
  (ifO (asF (bin2 eqD (callF lenK (consA (varD 2) nilA)) (cD (.int 2))))
  (ifO (orB (asF (bin2 neD (bin2 ixD (varD 2) (cD (.int 0))) (cD (.str "leaf")))) (notB (asF (callU 1 v_is_integer (consA (bin2 ixD (varD 2) (cD (.int 1))) nilA)))))
  (rtO (cD (.bool false)))
  nxO)
  (ifO (orB (asF (bin2 neD (bin2 ixD (varD 2) (cD (.int 0))) (cD (.str "fork")))) (notB (asF (callU 1 v_is_box (consA (bin2 ixD (varD 2) (cD (.int 1))) nilA)))))
  (rtO (cD (.bool false)))
  (extO 1 (newD (consA (tupD (consA (bin2 ixD (varD 2) (cD (.int 2))) (consA (bin2 addD (varD 3) (cD (.int 1))) nilA))) (consA (tupD (consA (bin2 ixD (varD 2) (cD (.int 3))) (consA (bin2 addD (varD 3) (cD (.int 1))) nilA))) nilA)))))))))
  (rtO (cD (.bool true)))))
noncomputable def v__is_tree : List D → R D := fnR 4 b__is_tree
noncomputable def b_tree_fault : EnvS → Out :=
  (sqO (exO (callU 1 v_check_boxes (consA (varD 0) nilA)))
  (sqO (ifO (notB (asF (callU 1 v__is_tree (consA (varD 1) nilA))))
  (rtO (cD c_FORM))
  nxO)
  (sqO (ifO (asF (bin2 neD (lstF (callN sortK (asLF (callU 1 v_numbers_in (consA (varD 1) nilA))))) (lstF (rgNew (callF lenK (consA (varD 0) nilA))))))
  (rtO (tupD (consA (cD (.str "leaves")) nilA)))
  nxO)
  (sqO (stO 2 (callU 3 v__fork_fault (consA (varD 0) (consA (varD 1) (consA (tupD nilA) nilA)))))
  (rtO (ifD (asF (bin2 notND (varD 2) (cD .none))) (tupD (consA (cD (.str "box")) (consA (varD 2) nilA))) (cD .none)))))))
noncomputable def v_tree_fault : List D → R D := fnR 3 b_tree_fault
noncomputable def b__check : EnvS → Out :=
  (sqO (exO (callU 1 v_check_boxes (consA (varD 0) nilA)))
  (ifO (asF (bin2 notND (callU 2 v_tree_fault (consA (varD 0) (consA (varD 1) nilA))) (cD .none)))
  (fun ρ => .ex "BadTree" ρ)
  nxO))
noncomputable def v__check : List D → R D := fnR 2 b__check
noncomputable def b__looked : EnvS → Out :=
  (sqO (exO (callU 2 v__check (consA (varD 0) (consA (varD 1) nilA))))
  (sqO (ifO (notB (asF (callU 1 v_is_box (consA (varD 2) nilA))))
  (fun ρ => .ex "BadBox" ρ)
  nxO)
  (sqO (lkO 3 (varD 0) (varD 2) (varD 1) v_lk)
  (rtO (varD 3)))))
noncomputable def v__looked : List D → R D := fnR 4 b__looked
noncomputable def b_found_by : EnvS → Out :=
  (rtO (callF (fun ds => .ok (.tuple ds)) (callN sortK (asLF (un1 lkH (callU 3 v__looked (consA (varD 0) (consA (varD 1) (consA (varD 2) nilA)))))))))
noncomputable def v_found_by : List D → R D := fnR 3 b_found_by
noncomputable def b_looks_by : EnvS → Out :=
  (rtO (un1 lkC (callU 3 v__looked (consA (varD 0) (consA (varD 1) (consA (varD 2) nilA))))))
noncomputable def v_looks_by : List D → R D := fnR 3 b_looks_by
noncomputable def b_pairs_found : EnvS → Out :=
  (sqO (exO (callU 2 v__check (consA (varD 0) (consA (varD 1) nilA))))
  (sqO (owO 2 (newD nilA))
  (sqO (loO (enuA (varD 0)) (tupG 2 (consG (nmG 3) (consG (nmG 4) nilG)))
  (sqO (lkO 5 (varD 0) (varD 4) (varD 1) v_lk)
  (extO 2 (lcF (seqF (un1 lkH (varD 5))) (nmG 6) (asF (bin2 gtD (varD 6) (varD 3))) (tupD (consA (varD 3) (consA (varD 6) nilA))) [6]))))
  (rtO (callF (fun ds => .ok (.tuple ds)) (callN sortK (ownD 2)))))))
noncomputable def v_pairs_found : List D → R D := fnR 7 b_pairs_found
noncomputable def b__law_error : EnvS → Out :=
  (sqO (tryR [("BadTree", (.str "tree")), ("BadBoxes", (.str "boxes")), ("BadBox", (.str "box"))]
  (ifO (asF (bin2 eqD (varD 0) (cD (.int 0))))
  (exO (callU 2 v_boxes_meet (consA (varD 1) (consA (varD 2) nilA))))
  (ifO (asF (bin2 eqD (varD 0) (cD (.int 1))))
  (exO (callU 1 v_box_around (consA (varD 1) nilA)))
  (ifO (asF (bin2 eqD (varD 0) (cD (.int 2))))
  (exO (callU 1 v_sweep_row (consA (varD 1) nilA)))
  (ifO (asF (bin2 eqD (varD 0) (cD (.int 3))))
  (exO (callU 1 v_sweep_pairs (consA (varD 1) nilA)))
  (ifO (asF (bin2 eqD (varD 0) (cD (.int 4))))
  (exO (callU 1 v_tree_of (consA (varD 1) nilA)))
  (ifO (asF (bin2 eqD (varD 0) (cD (.int 5))))
  (exO (callU 2 v_tree_fault (consA (varD 1) (consA (varD 2) nilA))))
  (ifO (asF (bin2 eqD (varD 0) (cD (.int 6))))
  (exO (callU 3 v_found_by (consA (varD 1) (consA (varD 2) (consA (varD 3) nilA)))))
  (ifO (asF (bin2 eqD (varD 0) (cD (.int 7))))
  (exO (callU 3 v_looks_by (consA (varD 1) (consA (varD 2) (consA (varD 3) nilA)))))
  (exO (callU 2 v_pairs_found (consA (varD 1) (consA (varD 2) nilA)))))))))))))
  (rtO (cD (.str "none"))))
noncomputable def v__law_error : List D → R D := fnR 5 b__law_error
noncomputable def b__law_edge : EnvS → Out :=
  (sqO (stO 2 (bin2 ixD (varD 0) (cD (.int 0))))
  (sqO (loO (seqF (slcG (varD 0) (someP (cD (.int 1))) noP)) (nmG 3)
  (ifO (ifB (asF (varD 1)) (asF (callU 2 v__law_less (consA (varD 2) (consA (varD 3) nilA)))) (asF (callU 2 v__law_less (consA (varD 3) (consA (varD 2) nilA)))))
  (stO 2 (varD 3))
  nxO))
  (rtO (varD 2))))
noncomputable def v__law_edge : List D → R D := fnR 4 b__law_edge
noncomputable def b__law_around : EnvS → Out :=
  (rtO (callF (fun ds => .ok (.tuple ds)) (lcF (seqF (tupD (consA (cD (.int 0)) (consA (cD (.int 1)) nilA)))) (nmG 1) yesB (tupD (consA (callU 2 v__law_edge (consA (lstF (lcF (seqF (varD 0)) (nmG 2) yesB (bin2 ixD (bin2 ixD (varD 2) (varD 1)) (cD (.int 0))) [2])) (consA (cD (.bool false)) nilA))) (consA (callU 2 v__law_edge (consA (lstF (lcF (seqF (varD 0)) (nmG 2) yesB (bin2 ixD (bin2 ixD (varD 2) (varD 1)) (cD (.int 1))) [2])) (consA (cD (.bool true)) nilA))) nilA))) [1])))
noncomputable def v__law_around : List D → R D := fnR 3 b__law_around
noncomputable def b__law_meet : EnvS → Out :=
  (rtO (notV (callF anyK (lcF (seqF (tupD (consA (cD (.int 0)) (consA (cD (.int 1)) nilA)))) (nmG 2) yesB (orV (callU 2 v__law_less (consA (bin2 ixD (bin2 ixD (varD 0) (varD 2)) (cD (.int 1))) (consA (bin2 ixD (bin2 ixD (varD 1) (varD 2)) (cD (.int 0))) nilA))) (callU 2 v__law_less (consA (bin2 ixD (bin2 ixD (varD 1) (varD 2)) (cD (.int 1))) (consA (bin2 ixD (bin2 ixD (varD 0) (varD 2)) (cD (.int 0))) nilA)))) [2]))))
noncomputable def v__law_meet : List D → R D := fnR 3 b__law_meet
noncomputable def b_law : EnvS → Out :=
  (sqO (stO 1 (callU 2 v__law_draws (consA (varD 0) (consA (cD (.int 120)) nilA))))
  (sqO (stO 2 (callU 2 v__law_boxes (consA (varD 1) (consA (cD (.int 12)) nilA))))
  (sqO (loO (seqF (varD 2)) (nmG 3)
  (sqO (loO (seqF (varD 2)) (nmG 4)
  (ifO (orB (asF (bin2 neD (callU 2 v_boxes_meet (consA (varD 3) (consA (varD 4) nilA))) (callU 2 v__law_meet (consA (varD 3) (consA (varD 4) nilA))))) (asF (bin2 neD (callU 2 v_boxes_meet (consA (varD 3) (consA (varD 4) nilA))) (callU 2 v_boxes_meet (consA (varD 4) (consA (varD 3) nilA))))))
  (rtO (cD (.bool false)))
  nxO))
  (sqO (unO (varD 3) (tupG 2 (consG (nmG 5) (consG (nmG 6) nilG))))
  (sqO (stO 7 (lstF (newD (consA (varD 3) (consA (lstF (callN lstK (consA (varD 3) nilA))) (consA (tupD (consA (varD 5) nilA)) (consA (bin2 addD (varD 3) (tupD (consA (varD 5) nilA))) (consA (tupD (consA (varD 5) (consA (cD .none) nilA))) (consA (cD .none) (consA (cD (.int 7)) (consA (tupD (consA (lstF (callN lstK (consA (varD 5) nilA))) (consA (varD 6) nilA))) (consA (tupD (consA (tupD (consA (bin2 ixD (varD 5) (cD (.int 0))) nilA)) (consA (varD 6) nilA))) (consA (tupD (consA (tupD (consA (bin2 ixD (varD 5) (cD (.int 1))) (consA (bin2 ixD (varD 5) (cD (.int 0))) nilA))) (consA (varD 6) nilA))) (consA (tupD (consA (varD 6) (consA (tupD (consA (bin2 ixD (varD 6) (cD (.int 1))) (consA (bin2 ixD (varD 6) (cD (.int 0))) nilA))) nilA))) nilA))))))))))))))
  (sqO (stO 7 (lstF (catL (asLF (varD 7)) (newD (consA (tupD (consA (tupD (consA (bin2 ixD (varD 5) (cD (.int 0))) (consA (cD (.int 3)) nilA))) (consA (varD 6) nilA))) (consA (tupD (consA (tupD (consA (bin2 ixD (varD 5) (cD (.int 0))) (consA (tupD (consA (cD (.int 2)) (consA (cD (.int 0)) nilA))) nilA))) (consA (varD 6) nilA))) (consA (tupD (consA (tupD (consA (bin2 ixD (varD 5) (cD (.int 0))) (consA (tupD (consA (cD (.bool true)) (consA (cD (.int 1)) nilA))) nilA))) (consA (varD 6) nilA))) (consA (tupD (consA (tupD (consA (bin2 ixD (varD 5) (cD (.int 0))) (consA (tupD (consA (cD (.int 20)) (consA (cD (.int 2)) nilA))) nilA))) (consA (varD 6) nilA))) (consA (tupD (consA (tupD (consA (bin2 ixD (varD 5) (cD (.int 0))) (consA (tupD (consA (cD (.int 99)) (consA (cD (.int 1)) nilA))) nilA))) (consA (varD 6) nilA))) (consA (tupD (consA (tupD (consA (bin2 ixD (varD 5) (cD (.int 0))) (consA (tupD (consA (cD (.int 99)) (consA (un1 negD (cD (.int 1))) nilA))) nilA))) (consA (varD 6) nilA))) nilA))))))))))
  (loO (seqF (varD 7)) (nmG 8)
  (sqO (stO 9 (callU 1 v__law_is_box (consA (varD 8) nilA)))
  (sqO (ifO (orB (asF (bin2 neD (callU 1 v_is_box (consA (varD 8) nilA)) (varD 9))) (asF (bin2 eqD (bin2 eqD (callU 4 v__law_error (consA (cD (.int 0)) (consA (varD 8) (consA (varD 3) (consA (cD .none) nilA))))) (cD (.str "box"))) (varD 9))))
  (rtO (cD (.bool false)))
  nxO)
  (sqO (ifO (orB (asF (bin2 eqD (bin2 eqD (callU 4 v__law_error (consA (cD (.int 0)) (consA (varD 3) (consA (varD 8) (consA (cD .none) nilA))))) (cD (.str "box"))) (varD 9))) (asF (bin2 eqD (bin2 eqD (callU 4 v__law_error (consA (cD (.int 1)) (consA (tupD (consA (varD 3) (consA (varD 8) nilA))) (consA (cD .none) (consA (cD .none) nilA))))) (cD (.str "box"))) (varD 9))))
  (rtO (cD (.bool false)))
  nxO)
  (ifO (asF (bin2 neD (lstF (lcF (seqF (tupD (consA (cD (.int 2)) (consA (cD (.int 3)) (consA (cD (.int 4)) (consA (cD (.int 5)) nilA)))))) (nmG 13) yesB (bin2 eqD (callU 4 v__law_error (consA (varD 13) (consA (tupD (consA (varD 3) (consA (varD 8) nilA))) (consA (cD .none) (consA (cD .none) nilA))))) (cD (.str "boxes"))) [13])) (lstF (repL (newD (consA (notV (varD 9)) nilA)) (cD (.int 4))))))
  (rtO (cD (.bool false)))
  nxO))))))))))
  (sqO (loO (seqF (tupD (consA (cD (.int 1)) (consA (cD (.int 2)) (consA (cD (.int 5)) (consA (cD (.int 12)) nilA)))))) (nmG 10)
  (ifO (orB (asF (bin2 neD (callU 1 v_box_around (consA (slcG (varD 2) noP (someP (varD 10))) nilA)) (callU 1 v__law_around (consA (slcG (varD 2) noP (someP (varD 10))) nilA)))) (notB (asF (callF allK (lcF (seqF (slcG (varD 2) noP (someP (varD 10)))) (nmG 3) yesB (callU 2 v_boxes_meet (consA (callU 1 v_box_around (consA (slcG (varD 2) noP (someP (varD 10))) nilA)) (consA (varD 3) nilA))) [3])))))
  (rtO (cD (.bool false)))
  nxO))
  (sqO (loO (seqF (tupD (consA (cD .none) (consA (cD (.int 7)) (consA (lstF (callN lstK (consA (varD 2) nilA))) (consA (tupD (consA (cD .none) nilA)) (consA (bin2 repTD (varD 2) (cD (.int 6))) nilA))))))) (nmG 11)
  (ifO (asF (bin2 neD (lstF (lcF (rng2F (cD (.int 2)) (cD (.int 9))) (nmG 13) yesB (callU 4 v__law_error (consA (varD 13) (consA (varD 11) (consA (cD .none) (consA (cD .none) nilA))))) [13])) (lstF (repL (newD (consA (cD (.str "boxes")) nilA)) (cD (.int 7))))))
  (rtO (cD (.bool false)))
  nxO))
  (sqO (ifO (orB (asF (bin2 neD (lstF (lcF (seqF (tupD (consA (cD .none) (consA (tupD nilA) (consA (lstF (callN lstK (consA (varD 2) nilA))) (consA (cD (.int 7)) nilA)))))) (nmG 11) yesB (callU 4 v__law_error (consA (cD (.int 1)) (consA (varD 11) (consA (cD .none) (consA (cD .none) nilA))))) [11])) (lstF (repL (newD (consA (cD (.str "box")) nilA)) (cD (.int 4)))))) (orB (asF (bin2 neD (callU 4 v__law_error (consA (cD (.int 4)) (consA (tupD nilA) (consA (cD .none) (consA (cD .none) nilA))))) (cD (.str "boxes")))) (asF (bin2 neD (callU 4 v__law_error (consA (cD (.int 5)) (consA (tupD nilA) (consA (cD .none) (consA (cD .none) nilA))))) (cD (.str "none"))))))
  (rtO (cD (.bool false)))
  nxO)
  (sqO (stO 12 (callU 1 v_tree_of (consA (varD 2) nilA)))
  (sqO (loO (seqF (tupD (consA (cD .none) (consA (tupD nilA) (consA (tupD (consA (cD (.str "leaf")) (consA (cD (.int 0)) nilA))) (consA (slcG (varD 12) noP (someP (cD (.int 3)))) nilA)))))) (nmG 11)
  (ifO (asF (bin2 neD (lstF (lcF (seqF (tupD (consA (cD (.int 6)) (consA (cD (.int 7)) (consA (cD (.int 8)) nilA))))) (nmG 13) yesB (callU 4 v__law_error (consA (varD 13) (consA (varD 2) (consA (varD 11) (consA (cD .none) nilA))))) [13])) (lstF (repL (newD (consA (cD (.str "tree")) nilA)) (cD (.int 3))))))
  (rtO (cD (.bool false)))
  nxO))
  (sqO (loO (seqF (tupD (consA (cD .none) (consA (tupD nilA) (consA (slcG (bin2 ixD (varD 2) (cD (.int 0))) noP (someP (cD (.int 1)))) (consA (tupD (consA (tupD (consA (cD (.int 2)) (consA (cD (.int 1)) nilA))) (consA (tupD (consA (cD (.int 3)) (consA (cD (.int 1)) nilA))) nilA))) nilA)))))) (nmG 11)
  (ifO (asF (bin2 neD (lstF (lcF (seqF (tupD (consA (cD (.int 6)) (consA (cD (.int 7)) nilA)))) (nmG 13) yesB (callU 4 v__law_error (consA (varD 13) (consA (varD 2) (consA (varD 12) (consA (varD 11) nilA))))) [13])) (lstF (repL (newD (consA (cD (.str "box")) nilA)) (cD (.int 2))))))
  (rtO (cD (.bool false)))
  nxO))
  (rtO (cD (.bool true))))))))))))
noncomputable def v_law : List D → R D := fnR 14 b_law
end Dn

namespace Mt
open PySem PySem.Spec PyProof.Rows L2 TD Dn
def N (q : Rat) : D := .tuple [.int q.num, .int q.den]
theorem okI (a : Int) : okD (.int a) = true := rfl
theorem okN (q : Rat) : okD (N q) = true := rfl
theorem eqv_int (a b : Int) : PyData.eqv (.int a) (.int b) = decide (a = b) := by
  first | rfl | (simp [PyData.eqv]) 
theorem eqD_int (a b : Int) : eqD (.int a) (.int b) = .ok (.bool (decide (a = b))) := by
  unfold eqD; rw [okI, okI, eqv_int]; rfl
theorem neD_int (a b : Int) : neD (.int a) (.int b) = .ok (.bool (!decide (a = b))) := by
  unfold neD; rw [okI, okI, eqv_int]; rfl
theorem fmodN (a b : Nat) : Int.fmod (a : Int) (b : Int) = ((a % b : Nat) : Int) := by
  rw [Int.fmod_eq_emod_of_nonneg _ (Int.natCast_nonneg b)]; rfl
theorem gcd_loop : ∀ (b a : Nat), ∃ n, whO (asF (bin2 gtD (varD 1) (cD (.int 0)))) (parO 0 1 (consA (varD 1) (consA (bin2 modD (varD 0) (varD 1)) nilA))) n [some (.pu (.int a)), some (.pu (.int b))] = .nx [some (.pu (.int (Nat.gcd a b : Nat))), some (.pu (.int 0))] := by
  intro b
  induction b using Nat.strongRecOn with
  | _ b ih =>
    intro a
    by_cases h : b = 0
    · subst h
      exact ⟨1, by simp [whO]⟩
    · obtain ⟨n, e⟩ := ih (a % b) (Nat.mod_lt _ (Nat.pos_of_ne_zero h)) b
      refine ⟨n + 1, ?_⟩
      have hb : (0:Int) < (b : Int) := by omega
      have hb' : decide ((b : Int) ≠ 0) = true := by simp [h]
      have hg : decide ((0:Int) < (b : Int)) = true := decide_eq_true hb
      have e1 : parO 0 1 (consA (varD 1) (consA (bin2 modD (varD 0) (varD 1)) nilA)) [some (.pu (.int a)), some (.pu (.int b))] = .nx [some (.pu (.int b)), some (.pu (.int (a % b : Nat)))] := by
        simp only [parO_ap, consA_ap, varD_succ, varD_zero, bin2_ap, nilA_ap, k2_ok, modD_int, hb', if_true, cnK_ok, parK_ok, List.set, fmodN]
      have e0 : asF (bin2 gtD (varD 1) (cD (.int 0))) [some (.pu (.int a)), some (.pu (.int b))] = .ok true := by
        simp only [asF_ap, varD_succ, varD_zero, bin2_ap, cD_ap, k2_ok, gtD_int, hg, asB_ok]
      rw [whO, e0, R.ok_out, if_pos rfl, e1]
      rw [Nat.gcd_comm a b, Nat.gcd_rec b a]
      rw [Nat.gcd_comm] at e
      exact e
theorem divisor_eq (a b : Int) : v_divisor [.int a, .int b] = .ok (.int (Int.gcd a b)) := by
  have ha : (if a < 0 then -a else a) = (a.natAbs : Int) := by split <;> omega
  have hb : (if b < 0 then -b else b) = (b.natAbs : Int) := by split <;> omega
  obtain ⟨n, e⟩ := gcd_loop b.natAbs a.natAbs
  have e2 := whX_eq n e (by intro h; cases h)
  show fnK (b_divisor [some (.pu (.int a)), some (.pu (.int b))]) = _
  unfold b_divisor
  simp [ha, hb, e2]
  rfl
theorem eqv_N (p q : Rat) : PyData.eqv (N p) (N q) = decide (p = q) := by
  have h : PyData.eqv (N p) (N q) = (decide (p.num = q.num) && decide ((p.den : Int) = q.den)) := by
    unfold N
    rw [show PyData.eqv (.tuple [.int p.num, .int p.den]) (.tuple [.int q.num, .int q.den]) = PyData.eqvAll [.int p.num, .int p.den] [.int q.num, .int q.den] by rw [PyData.eqv]]
    rw [PyData.eqvAll, PyData.eqvAll, PyData.eqvAll, eqv_int, eqv_int, Bool.and_true]
  rw [h]
  by_cases e : p = q
  · subst e; simp
  · rw [decide_eq_false e]
    by_cases e1 : p.num = q.num
    · rw [decide_eq_true e1]
      rw [Bool.true_and]
      apply decide_eq_false
      intro e2
      exact e (Rat.ext e1 (by omega))
    · rw [decide_eq_false e1]; rfl
theorem isint_int (a : Int) : v_is_integer [.int a] = .ok (.bool true) := by
  show fnK (b_is_integer [some (.pu (.int a))]) = _
  unfold b_is_integer
  simp [isiK, tyName, kit_ii, kit_ib]
theorem isint_other {d : D} (h1 : isI d = false ∨ isB d = true) (hd : isDict d = false) : v_is_integer [d] = .ok (.bool false) := by
  show fnK (b_is_integer [some (.pu d)]) = _
  unfold b_is_integer
  cases d <;> first | (cases hd; done) | (simp [isI, isB] at h1; done) | simp [isiK, tyName, kit_ii, kit_ib, kit_bi, kit_bb, kit_ti, kit_li, kit_ni, kit_si]
theorem isnum_pair (a b : Int) : v_is_number [.tuple [.int a, .int b]] = .ok (.bool (decide (1 ≤ b) && decide ((Int.gcd a b : Int) = 1))) := by
  show fnK (b_is_number [some (.pu (.tuple [.int a, .int b]))]) = _
  unfold b_is_number
  by_cases h : 1 ≤ b
  · simp [isiK, tyName, kit_tt, neD_int, isint_int, divisor_eq, eqD_int, h]
  · simp [isiK, tyName, kit_tt, neD_int, isint_int, divisor_eq, eqD_int, h]
theorem isnum_N (q : Rat) : v_is_number [N q] = .ok (.bool true) := by
  unfold N
  rw [isnum_pair]
  have h1 : (1 : Int) ≤ q.den := by have := q.den_pos; omega
  have h2 : (Int.gcd q.num q.den : Int) = 1 := by
    have := q.reduced
    show ((Nat.gcd q.num.natAbs (q.den : Int).natAbs : Nat) : Int) = 1
    rw [Int.natAbs_natCast, show Nat.gcd q.num.natAbs q.den = 1 from this]; rfl
  rw [decide_eq_true h1, decide_eq_true h2]; rfl
/-! ### sizes -/
def Bd (k : Nat) (q : Rat) : Prop := q.num.natAbs < 2 ^ k ∧ q.den < 2 ^ k
theorem log2_le {x k : Nat} (h : x < 2 ^ k) : x.log2 ≤ k := by
  by_cases e : x = 0
  · subst e; simp
  · exact Nat.le_of_lt ((Nat.log2_lt e).mpr h)
theorem mulOk_of {a b : Int} {k l : Nat} (ha : a.natAbs < 2 ^ k) (hb : b.natAbs < 2 ^ l) (h : k + l < 1000000) : mulOk a b = true := by
  unfold mulOk
  have := log2_le ha
  have := log2_le hb
  apply decide_eq_true
  omega
theorem mulD_ok {a b : Int} {k l : Nat} (ha : a.natAbs < 2 ^ k) (hb : b.natAbs < 2 ^ l) (h : k + l < 1000000) : mulD (.int a) (.int b) = .ok (.int (a * b)) := by
  rw [mulD_int, mulOk_of ha hb h]; rfl
theorem mul_lt {a b : Int} {k l : Nat} (ha : a.natAbs < 2 ^ k) (hb : b.natAbs < 2 ^ l) : (a * b).natAbs < 2 ^ (k + l) := by
  rw [Int.natAbs_mul, Nat.pow_add]
  exact Nat.mul_lt_mul'' ha hb
theorem add_lt {a b : Int} {k : Nat} (ha : a.natAbs < 2 ^ k) (hb : b.natAbs < 2 ^ k) : (a + b).natAbs < 2 ^ (k + 1) := by
  rw [Nat.pow_succ]; omega
theorem sub_lt {a b : Int} {k : Nat} (ha : a.natAbs < 2 ^ k) (hb : b.natAbs < 2 ^ k) : (a - b).natAbs < 2 ^ (k + 1) := by
  rw [Nat.pow_succ]; omega
theorem lt_up {a k l : Nat} (h : a < 2 ^ k) (hl : k ≤ l) : a < 2 ^ l := Nat.lt_of_lt_of_le h (Nat.pow_le_pow_right (by decide) hl)
theorem Bd.up {k l : Nat} {q : Rat} (h : Bd k q) (hl : k ≤ l) : Bd l q := ⟨lt_up h.1 hl, lt_up h.2 hl⟩
/-! ### made -/
theorem made_core {a b c : Int} (hc : c = if b < 0 then -(Int.gcd a b : Int) else Int.gcd a b) (hb : b ≠ 0) :
    ∃ n d : Int, a = n * c ∧ b = d * c ∧ 0 < d ∧ Int.gcd n d = 1 ∧ c ≠ 0 := by
  have hg : (Int.gcd a b : Int) ≠ 0 := by
    intro h
    have : Int.gcd a b = 0 := by omega
    exact hb (Int.gcd_eq_zero_iff.mp this).2
  obtain ⟨n, hn⟩ := Int.gcd_dvd_left a b
  obtain ⟨d, hd⟩ := Int.gcd_dvd_right a b
  have hc0 : c ≠ 0 := by rw [hc]; split <;> omega
  have key : ∀ n d : Int, a = n * c → b = d * c → Int.gcd n d = 1 := by
    intro n d e1 e2
    have e := Int.gcd_mul_right n c d
    rw [← e1, ← e2] at e
    have e3 : c.natAbs = Int.gcd a b := by rw [hc]; split <;> omega
    rw [e3] at e
    have hpos : 0 < Int.gcd a b := by omega
    exact Nat.eq_of_mul_eq_mul_right hpos (by rw [Nat.one_mul]; exact e.symm)
  by_cases hneg : b < 0
  · rw [if_pos hneg] at hc
    have h1 : a = -n * c := by rw [hc, Int.neg_mul_neg, Int.mul_comm]; exact hn
    have h2 : b = -d * c := by rw [hc, Int.neg_mul_neg, Int.mul_comm]; exact hd
    refine ⟨-n, -d, h1, h2, ?_, key _ _ h1 h2, hc0⟩
    have hcneg : c < 0 := by omega
    rcases Int.lt_trichotomy (-d) 0 with h | h | h
    · have := Int.mul_pos_of_neg_of_neg h hcneg; omega
    · rw [h] at h2; omega
    · exact h
  · rw [if_neg hneg] at hc
    have h1 : a = n * c := by rw [hc, Int.mul_comm]; exact hn
    have h2 : b = d * c := by rw [hc, Int.mul_comm]; exact hd
    refine ⟨n, d, h1, h2, ?_, key _ _ h1 h2, hc0⟩
    have hcpos : 0 < c := by omega
    rcases Int.lt_trichotomy d 0 with h | h | h
    · have := Int.mul_neg_of_neg_of_pos h hcpos; omega
    · rw [h] at h2; omega
    · exact h
theorem fdiv_mul {n c : Int} (h : c ≠ 0) : (n * c).fdiv c = n := Int.mul_fdiv_cancel n h
theorem divInt_N {n d c : Int} (hd : 0 < d) (hg : Int.gcd n d = 1) (hc : c ≠ 0) : (Rat.divInt (n * c) (d * c)).num = n ∧ ((Rat.divInt (n * c) (d * c)).den : Int) = d := by
  rw [Rat.divInt_mul_right hc]
  obtain ⟨m, rfl⟩ := Int.eq_ofNat_of_zero_le (Int.le_of_lt hd)
  have nz : m ≠ 0 := by omega
  have co : n.natAbs.Coprime m := by
    have hg' : Nat.gcd n.natAbs ((m : Nat) : Int).natAbs = 1 := hg
    rw [Int.natAbs_natCast] at hg'; exact hg'
  rw [← Rat.mk_eq_divInt (nz := nz) (c := co)]
  exact ⟨rfl, rfl⟩
theorem divInt_bd {a b : Int} (hb : b ≠ 0) : (Rat.divInt a b).num.natAbs ≤ a.natAbs ∧ (Rat.divInt a b).den ≤ b.natAbs := by
  obtain ⟨n, d, ha, hbd, hd, hg, hc⟩ := made_core (a := a) rfl hb
  generalize hcc : (if b < 0 then -(Int.gcd a b : Int) else Int.gcd a b) = c at ha hbd hc
  have e := divInt_N (n := n) hd hg hc
  rw [← ha, ← hbd] at e
  have h1 : 1 ≤ c.natAbs := by omega
  refine ⟨?_, ?_⟩
  · rw [e.1, ha, Int.natAbs_mul]; exact Nat.le_mul_of_pos_right _ h1
  · have : (Rat.divInt a b).den = d.natAbs := by omega
    rw [this, hbd, Int.natAbs_mul]; exact Nat.le_mul_of_pos_right _ h1
theorem divInt_cross {a b : Int} (hb : b ≠ 0) : (Rat.divInt a b).num * b = a * (Rat.divInt a b).den := by
  have h := Rat.num_divInt_den (Rat.divInt a b)
  have hd : ((Rat.divInt a b).den : Int) ≠ 0 := by have := (Rat.divInt a b).den_pos; omega
  exact (Rat.divInt_eq_divInt_iff hd hb).mp h
@[simp] theorem ixN0 (q : Rat) : ixD (N q) (.int 0) = .ok (.int q.num) := rfl
@[simp] theorem ixN1 (q : Rat) : ixD (N q) (.int 1) = .ok (.int q.den) := rfl
section
variable {p q : Rat} {k l : Nat}
theorem den_ne (q : Rat) : (q.den : Int) ≠ 0 := by have := q.den_pos; omega
theorem natAbs_den (q : Rat) : ((q.den : Int)).natAbs = q.den := Int.natAbs_natCast _
theorem dB (h : Bd k q) : ((q.den : Int)).natAbs < 2 ^ k := by rw [natAbs_den]; exact h.2
theorem add_div (p q : Rat) : p + q = Rat.divInt (p.num * q.den + q.num * p.den) (p.den * q.den) := by
  have h := Rat.divInt_add_divInt p.num q.num (den_ne p) (den_ne q)
  rw [Rat.num_divInt_den, Rat.num_divInt_den] at h
  exact h
theorem sub_div (p q : Rat) : p - q = Rat.divInt (p.num * q.den - q.num * p.den) (p.den * q.den) := by
  have h := Rat.divInt_sub_divInt p.num q.num (den_ne p) (den_ne q)
  rw [Rat.num_divInt_den, Rat.num_divInt_den] at h
  exact h
theorem mul_div (p q : Rat) : p * q = Rat.divInt (p.num * q.num) (p.den * q.den) := by
  have h := Rat.divInt_mul_divInt p.num q.num (d₁ := p.den) (d₂ := q.den)
  rw [Rat.num_divInt_den, Rat.num_divInt_den] at h
  exact h
theorem div_div (p q : Rat) : p / q = Rat.divInt (p.num * q.den) (p.den * q.num) := by
  rw [Rat.div_def, Rat.inv_def]
  have h := Rat.divInt_mul_divInt p.num q.den (d₁ := p.den) (d₂ := q.num)
  rw [Rat.num_divInt_den] at h
  exact h
theorem dd_ne (p q : Rat) : (p.den * q.den : Int) ≠ 0 := Int.mul_ne_zero (den_ne p) (den_ne q)
theorem num_ne (h : q ≠ 0) : q.num ≠ 0 := fun e => h (Rat.num_eq_zero.mp e)
/-- bounds -/
theorem add_bd (hp : Bd k p) (hq : Bd l q) : Bd (k + l + 1) (p + q) := by
  rw [add_div]
  have h := divInt_bd (a := p.num * q.den + q.num * p.den) (dd_ne p q)
  have h1 := mul_lt hp.1 (dB hq)
  have h2 := mul_lt hq.1 (dB hp)
  rw [Nat.add_comm l k] at h2
  have h3 := add_lt h1 h2
  have h4 := lt_up (mul_lt (dB hp) (dB hq)) (Nat.le_succ (k + l))
  exact ⟨Nat.lt_of_le_of_lt h.1 h3, Nat.lt_of_le_of_lt h.2 h4⟩
theorem sub_bd (hp : Bd k p) (hq : Bd l q) : Bd (k + l + 1) (p - q) := by
  rw [sub_div]
  have h := divInt_bd (a := p.num * q.den - q.num * p.den) (dd_ne p q)
  have h1 := mul_lt hp.1 (dB hq)
  have h2 := mul_lt hq.1 (dB hp)
  rw [Nat.add_comm l k] at h2
  have h3 := sub_lt h1 h2
  have h4 := lt_up (mul_lt (dB hp) (dB hq)) (Nat.le_succ (k + l))
  exact ⟨Nat.lt_of_le_of_lt h.1 h3, Nat.lt_of_le_of_lt h.2 h4⟩
theorem mul_bd (hp : Bd k p) (hq : Bd l q) : Bd (k + l) (p * q) := by
  rw [mul_div]
  have h := divInt_bd (a := p.num * q.num) (dd_ne p q)
  exact ⟨Nat.lt_of_le_of_lt h.1 (mul_lt hp.1 hq.1), Nat.lt_of_le_of_lt h.2 (mul_lt (dB hp) (dB hq))⟩
theorem div_bd (hp : Bd k p) (hq : Bd l q) (h0 : q ≠ 0) : Bd (k + l) (p / q) := by
  rw [div_div]
  have h := divInt_bd (a := p.num * q.den) (Int.mul_ne_zero (den_ne p) (num_ne h0))
  exact ⟨Nat.lt_of_le_of_lt h.1 (mul_lt hp.1 (dB hq)), Nat.lt_of_le_of_lt h.2 (mul_lt (dB hp) hq.1)⟩
end
theorem allK_trues (ds : List D) : allK (ds.map fun _ => .bool true) = .ok (.bool true) := by
  unfold allK
  have h : boolsOf (ds.map fun _ => .bool true) = some (ds.map fun _ => true) := by
    induction ds with
    | nil => rfl
    | cons d ds ih => simp [boolsOf, ih]
  rw [h]
  simp
section
variable {p q : Rat} {k l : Nat}
def ordI (p q : Rat) : Int := p.num * q.den - q.num * p.den
def sgI (a : Int) : Int := if a = 0 then 0 else if 0 < a then 1 else -1
theorem order_eq (hp : Bd k p) (hq : Bd l q) (h : k + l < 7000) : v_order [N p, N q] = .ok (.int (sgI (ordI p q))) := by
  show fnK (b_order [some (.pu (N p)), some (.pu (N q)), none]) = _
  unfold b_order ordI sgI
  simp only [sqO_ap, stO_ap, bin2_ap, varD_zero, varD_succ, cD_ap, k2_ok, ixN0, ixN1,
    mulD_ok hp.1 (dB hq) (by omega), mulD_ok hq.1 (dB hp) (by omega), subD_int, stK_ok, List.set, Out.nx_seq, rtO_ap, ifD_ap, asF_ap, eqD_int, asB_ok]
  generalize p.num * q.den - q.num * p.den = a
  by_cases h0 : a = 0
  · simp [h0]
  · by_cases h1 : 0 < a
    · simp [h0, h1]
    · simp [h0, h1]
theorem ord_zero (p q : Rat) : ordI p q = 0 ↔ p = q := by
  unfold ordI
  constructor
  · intro h
    have := (Rat.divInt_eq_divInt_iff (den_ne p) (den_ne q)).mpr (show p.num * q.den = q.num * p.den by omega)
    rw [Rat.num_divInt_den, Rat.num_divInt_den] at this
    exact this
  · intro h; subst h; omega
theorem ord_neg (p q : Rat) : ordI p q < 0 ↔ p < q := by
  unfold ordI
  rw [Rat.lt_iff]; omega
theorem ord_pos (p q : Rat) : 0 < ordI p q ↔ q < p := by
  unfold ordI
  rw [Rat.lt_iff]; omega
theorem sg_neg (a : Int) : sgI a < 0 ↔ a < 0 := by unfold sgI; split <;> (try split) <;> omega
theorem sg_pos (a : Int) : 0 < sgI a ↔ 0 < a := by unfold sgI; split <;> (try split) <;> omega
end
theorem forO_cons {h : D → EnvS → R EnvS} {gb : EnvS → Out} {d : D} {ds : List D} {ρ ρ1 ρ2 : EnvS} (e1 : h d ρ = .ok ρ1) (e2 : gb ρ1 = .nx ρ2) : forO h gb (d :: ds) ρ = forO h gb ds ρ2 := by
  rw [forO, e1]
  dsimp only
  rw [e2]
def Gd (ds : List Int) : Prop := ∀ x ∈ ds, 0 ≤ x ∧ x < 65521
theorem Gd.snoc {ds : List Int} {x : Int} (h : Gd ds) (h0 : 0 ≤ x) (h1 : x < 65521) : Gd (ds ++ [x]) := fun y hy => by
  rcases List.mem_append.mp hy with hy | hy
  · exact h y hy
  · rw [List.mem_singleton.mp hy]; exact ⟨h0, h1⟩
theorem modK {a : Int} (m : Int) (hm : 0 < m) : modD (.int a) (.int m) = .ok (.int (a % m)) := by
  rw [modD_int, decide_eq_true (show m ≠ 0 by omega), Int.fmod_eq_emod_of_nonneg _ (by omega)]; rfl
theorem fdivK {a : Int} (m : Int) (hm : 0 < m) (h : m < 1000000) : fdivD (.int a) (.int m) = .ok (.int (a / m)) := by
  have : m.natAbs.log2 ≤ 20 := log2_le (Nat.lt_of_lt_of_le (show m.natAbs < 1000000 by omega) (by decide))
  rw [fdivD_int, Int.fdiv_eq_ediv_of_nonneg _ (by omega)]
  unfold divOk
  rw [decide_eq_true (show m ≠ 0 by omega), decide_eq_true (by omega)]; rfl
theorem app_int {i : Nat} {ρ : EnvS} {ds : List Int} {x : Int} (h : ds.length ≤ 100000) : appK i (some (some (.ow (ds.map .int)))) (.ok (.int x)) ρ = .nx (ρ.set i (some (.ow ((ds ++ [x]).map .int)))) := by
  rw [appK_ok (by unfold lineOk; rw [List.length_map]; exact decide_eq_true (by omega)), List.map_append]
  rfl
theorem inner_loop {S M C : Option Sl} {seed : Int} : ∀ (ks : List D) (ds : List Int) (num : Int) (z : Option Sl), 0 ≤ num → Gd ds → ds.length + ks.length ≤ 100000 →
    ∃ ds' num' z', forO (nmG 6) (ifO (asF (bin2 gtD (varD 5) (cD (.int 0)))) (sqO (appO 2 (bin2 modD (callF intG (consA (varD 5) nilA)) (cD (.int 1009)))) (stO 5 (bin2 fdivD (varD 5) (cD (.int 1009))))) nxO) ks
      [S, M, some (.ow (ds.map .int)), some (.pu (.int seed)), C, some (.pu (.int num)), z] = .nx [S, M, some (.ow (ds'.map .int)), some (.pu (.int seed)), C, some (.pu (.int num')), z'] ∧ Gd ds' ∧ ds'.length ≤ ds.length + ks.length := by
  intro ks
  induction ks with
  | nil => exact fun ds num z _ hg _ => ⟨ds, num, z, rfl, hg, Nat.le_refl _⟩
  | cons d ks ih =>
    intro ds num z h0 hg hl
    rw [List.length_cons] at hl
    by_cases hp : 0 < num
    · obtain ⟨ds', num', z', e, h1, h2⟩ := ih (ds ++ [num % 1009]) (num / 1009) (some (.pu d)) (Int.ediv_nonneg h0 (by omega)) (hg.snoc (Int.emod_nonneg _ (by omega)) (by have := Int.emod_lt_of_pos num (show (0:Int) < 1009 by omega); omega)) (by rw [List.length_append, List.length_singleton]; omega)
      refine ⟨ds', num', z', ?_, h1, by rw [List.length_append, List.length_singleton] at h2; rw [List.length_cons]; omega⟩
      rw [forO_cons (ρ1 := [S, M, some (.ow (ds.map .int)), some (.pu (.int seed)), C, some (.pu (.int num)), some (.pu d)]) rfl]
      · exact e
      · simp only [ifO_ap, asF_ap, bin2_ap, varD_zero, varD_succ, cD_ap, k2_ok, gtD_int, decide_eq_true hp, asB_ok, ifK_t, sqO_ap, appO_ap, callF_ap, consA_ap, nilA_ap, cnK_ok, R.ok_bind, intG_int, modK 1009 (by omega), List.getElem?_cons_succ, List.getElem?_cons_zero, app_int (show ds.length ≤ 100000 by omega), Out.nx_seq, List.set, stO_ap, fdivK 1009 (by omega) (by omega), stK_ok]
    · obtain ⟨ds', num', z', e, h1, h2⟩ := ih ds num (some (.pu d)) h0 hg (by omega)
      refine ⟨ds', num', z', ?_, h1, by rw [List.length_cons]; omega⟩
      rw [forO_cons (ρ1 := [S, M, some (.ow (ds.map .int)), some (.pu (.int seed)), C, some (.pu (.int num)), some (.pu d)]) rfl]
      · exact e
      · simp only [ifO_ap, asF_ap, bin2_ap, varD_zero, varD_succ, cD_ap, k2_ok, gtD_int, decide_eq_false hp, asB_ok, ifK_f, nxO_ap]
theorem small_bits {a : Int} (h0 : 0 ≤ a) (h : a < 2147483647) : a.natAbs < 2 ^ 31 := by
  have : (2:Nat) ^ 31 = 2147483648 := by decide
  omega
theorem cell_loop {S M : Option Sl} : ∀ (cs : List Int) (ds : List Int) (seed : Int) (y w z : Option Sl), 0 ≤ seed → seed < 2147483647 → Gd ds → ds.length + 60 * cs.length ≤ 50000 →
    ∃ ds' seed' y' w' z', forO (nmG 4) (sqO (stO 5 (callF absK (consA (varD 4) nilA)))
  (sqO (stO 3 (bin2 modD (callF intG (consA (bin2 addD (bin2 addD (bin2 mulD (varD 3) (cD (.int 48271))) (varD 5)) (cD (.int 11))) nilA)) (cD (.int 2147483647))))
  (ifO (asF (bin2 geD (varD 5) (bin2 powD (cD (.int 10)) (cD (.int 18)))))
  (loO (rng1F (cD (.int 60))) (nmG 6)
  (ifO (asF (bin2 gtD (varD 5) (cD (.int 0))))
  (sqO (appO 2 (bin2 modD (callF intG (consA (varD 5) nilA)) (cD (.int 1009))))
  (stO 5 (bin2 fdivD (varD 5) (cD (.int 1009)))))
  nxO))
  (appO 2 (bin2 modD (bin2 fdivD (callF intG (consA (bin2 addD (bin2 mulD (varD 3) (cD (.int 16807))) (cD (.int 5))) nilA)) (cD (.int 3))) (cD (.int 65521))))))) (cs.map .int)
      [S, M, some (.ow (ds.map .int)), some (.pu (.int seed)), y, w, z] = .nx [S, M, some (.ow (ds'.map .int)), some (.pu (.int seed')), y', w', z'] ∧ Gd ds' ∧ ds'.length ≤ ds.length + 60 * cs.length ∧ 0 ≤ seed' ∧ seed' < 2147483647 := by
  intro cs
  induction cs with
  | nil => exact fun ds seed y w z h0 h1 hg _ => ⟨ds, seed, y, w, z, rfl, hg, Nat.le_refl _, h0, h1⟩
  | cons c cs ih =>
    intro ds seed y w z h0 h1 hg hl
    rw [List.length_cons] at hl
    have hm1 : mulD (.int seed) (.int 48271) = .ok (.int (seed * 48271)) := mulD_ok (small_bits h0 h1) (show (48271 : Int).natAbs < 2 ^ 16 by decide) (by decide)
    generalize hs2 : (seed * 48271 + (if c < 0 then -c else c) + 11) % 2147483647 = s2
    have s20 : 0 ≤ s2 := by rw [← hs2]; exact Int.emod_nonneg _ (by omega)
    have s21 : s2 < 2147483647 := by rw [← hs2]; exact Int.emod_lt_of_pos _ (by omega)
    have hm2 : mulD (.int s2) (.int 16807) = .ok (.int (s2 * 16807)) := mulD_ok (small_bits s20 s21) (show (16807 : Int).natAbs < 2 ^ 16 by decide) (by decide)
    have hpw : powD (.int 10) (.int 18) = .ok (.int 1000000000000000000) := by rfl
    generalize hn : (if c < 0 then -c else c) = n at hs2
    have hn0 : 0 ≤ n := by rw [← hn]; split <;> omega
    by_cases hbig : 1000000000000000000 ≤ n
    · obtain ⟨ds1, n1, z1, e1, g1, l1⟩ := inner_loop (S := S) (M := M) (C := some (.pu (.int c))) (seed := s2) (rngD 0 60) ds n z hn0 hg (by unfold rngD; rw [List.length_map, List.length_range]; omega)
      have hr : (rngD 0 60).length = 60 := by unfold rngD; rw [List.length_map, List.length_range]
      obtain ⟨ds', seed', y', w', z', e, h2, h3, h4, h5⟩ := ih ds1 s2 (some (.pu (.int c))) (some (.pu (.int n1))) z1 s20 s21 g1 (by omega)
      refine ⟨ds', seed', y', w', z', ?_, h2, by rw [List.length_cons]; omega, h4, h5⟩
      rw [List.map_cons, forO_cons (ρ1 := [S, M, some (.ow (ds.map .int)), some (.pu (.int seed)), some (.pu (.int c)), w, z]) rfl]
      · exact e
      · simp only [sqO_ap, stO_ap, callF_ap, consA_ap, varD_zero, varD_succ, nilA_ap, cnK_ok, R.ok_bind, absK_int, hn, stK_ok, List.set, Out.nx_seq, bin2_ap, cD_ap, k2_ok, hm1, addD_int, intG_int, modK 2147483647 (by omega), hs2, ifO_ap, asF_ap, hpw, geD_int, decide_eq_true hbig, asB_ok, ifK_t, loO_ap, rng1F_ap]
        rw [show rgK (.ok (.int 60)) = .ok (rngD 0 60) from rfl, loK_ok]
        exact e1
    · have hx0 : 0 ≤ (s2 * 16807 + 5) / 3 % 65521 := Int.emod_nonneg _ (by omega)
      have hx1 : (s2 * 16807 + 5) / 3 % 65521 < 65521 := Int.emod_lt_of_pos _ (by omega)
      obtain ⟨ds', seed', y', w', z', e, h2, h3, h4, h5⟩ := ih (ds ++ [(s2 * 16807 + 5) / 3 % 65521]) s2 (some (.pu (.int c))) (some (.pu (.int n))) z s20 s21 (hg.snoc hx0 hx1) (by rw [List.length_append, List.length_singleton]; omega)
      refine ⟨ds', seed', y', w', z', ?_, h2, by rw [List.length_append, List.length_singleton] at h3; rw [List.length_cons]; omega, h4, h5⟩
      rw [List.map_cons, forO_cons (ρ1 := [S, M, some (.ow (ds.map .int)), some (.pu (.int seed)), some (.pu (.int c)), w, z]) rfl]
      · exact e
      · simp only [sqO_ap, stO_ap, callF_ap, consA_ap, varD_zero, varD_succ, nilA_ap, cnK_ok, R.ok_bind, absK_int, hn, stK_ok, List.set, Out.nx_seq, bin2_ap, cD_ap, k2_ok, hm1, addD_int, intG_int, modK 2147483647 (by omega), hs2, ifO_ap, asF_ap, hpw, geD_int, decide_eq_false hbig, asB_ok, ifK_f, appO_ap, hm2, fdivK 3 (by omega) (by omega), modK 65521 (by omega), List.getElem?_cons_succ, List.getElem?_cons_zero, app_int (show ds.length ≤ 100000 by omega)]
theorem fill_loop {S : Option Sl} {m : Nat} (hm : m ≤ 1000) : ∀ (ks : List Int) (ds : List Int) (seed : Int) (y w z : Option Sl), 0 ≤ seed → seed < 2147483647 → Gd ds → ds.length ≤ 50000 →
    ∃ ds' seed' z', forO (nmG 6)
  (ifO (asF (bin2 ltD (callF (fun ds => .ok (.int ds.length)) (ownD 2)) (varD 1)))
  (sqO (stO 3 (bin2 modD (callF intG (consA (bin2 addD (bin2 addD (bin2 mulD (varD 3) (cD (.int 69621))) (varD 6)) (cD (.int 1))) nilA)) (cD (.int 2147483647))))
  (appO 2 (bin2 modD (bin2 fdivD (callF intG (consA (varD 3) nilA)) (cD (.int 7))) (cD (.int 65521)))))
  nxO) (ks.map .int)
      [S, some (.pu (.int m)), some (.ow (ds.map .int)), some (.pu (.int seed)), y, w, z] = .nx [S, some (.pu (.int m)), some (.ow (ds'.map .int)), some (.pu (.int seed')), y, w, z'] ∧ Gd ds' ∧ (m ≤ ds'.length ∨ ds.length + ks.length ≤ ds'.length) := by
  intro ks
  induction ks with
  | nil => exact fun ds seed y w z h0 h1 hg _ => ⟨ds, seed, z, rfl, hg, .inr (Nat.le_refl _)⟩
  | cons c cs ih =>
    intro ds seed y w z h0 h1 hg hl
    have hm1 : mulD (.int seed) (.int 69621) = .ok (.int (seed * 69621)) := mulD_ok (small_bits h0 h1) (show (69621 : Int).natAbs < 2 ^ 17 by decide) (by decide)
    have hown : (R.ok (List.map PyData.int ds)).bind (fun ds => R.ok (PyData.int ds.length)) = .ok (.int ds.length) := by
      rw [R.ok_bind, List.length_map]
    by_cases hlt : (ds.length : Int) < m
    · generalize hs2 : (seed * 69621 + c + 1) % 2147483647 = s2
      have s20 : 0 ≤ s2 := by rw [← hs2]; exact Int.emod_nonneg _ (by omega)
      have s21 : s2 < 2147483647 := by rw [← hs2]; exact Int.emod_lt_of_pos _ (by omega)
      have hx0 : 0 ≤ s2 / 7 % 65521 := Int.emod_nonneg _ (by omega)
      have hx1 : s2 / 7 % 65521 < 65521 := Int.emod_lt_of_pos _ (by omega)
      obtain ⟨ds', seed', z', e, h2, h3⟩ := ih (ds ++ [s2 / 7 % 65521]) s2 y w (some (.pu (.int c))) s20 s21 (hg.snoc hx0 hx1) (by rw [List.length_append, List.length_singleton]; omega)
      refine ⟨ds', seed', z', ?_, h2, by rw [List.length_append, List.length_singleton] at h3; rw [List.length_cons]; omega⟩
      rw [List.map_cons, forO_cons (ρ1 := [S, some (.pu (.int m)), some (.ow (ds.map .int)), some (.pu (.int seed)), y, w, some (.pu (.int c))]) rfl]
      · exact e
      · simp only [ifO_ap, asF_ap, bin2_ap, callF_ap, ownD_zero, ownD_succ, hown, varD_zero, varD_succ, k2_ok, ltD_int, decide_eq_true hlt, asB_ok, ifK_t, sqO_ap, stO_ap, consA_ap, nilA_ap, cnK_ok, R.ok_bind, stK_ok, List.set, Out.nx_seq, cD_ap, hm1, addD_int, intG_int, modK 2147483647 (by omega), hs2, appO_ap, fdivK 7 (by omega) (by omega), modK 65521 (by omega), List.getElem?_cons_succ, List.getElem?_cons_zero, app_int (show ds.length ≤ 100000 by omega)]
    · obtain ⟨ds', seed', z', e, h2, h3⟩ := ih ds seed y w (some (.pu (.int c))) h0 h1 hg hl
      refine ⟨ds', seed', z', ?_, h2, .inl (by rcases h3 with h3 | h3 <;> omega)⟩
      rw [List.map_cons, forO_cons (ρ1 := [S, some (.pu (.int m)), some (.ow (ds.map .int)), some (.pu (.int seed)), y, w, some (.pu (.int c))]) rfl]
      · exact e
      · simp only [ifO_ap, asF_ap, bin2_ap, callF_ap, ownD_zero, ownD_succ, hown, varD_zero, varD_succ, k2_ok, ltD_int, decide_eq_false hlt, asB_ok, ifK_f, nxO_ap]
theorem cut_take {α : Type} (xs : List α) (m : Nat) : TD.cutD xs none (some (m : Int)) = xs.take m := by
  unfold TD.cutD
  rw [HT.sIx_none, HT.sIx_nat, List.drop_zero, Nat.sub_zero]
  by_cases h : m ≤ xs.length
  · rw [Nat.min_eq_left h]
  · rw [Nat.min_eq_right (by omega), List.take_of_length_le (Nat.le_refl _), List.take_of_length_le (by omega)]
theorem rg_ok {m : Nat} (hm : m ≤ 1000) : rgK (.ok (.int m)) = .ok (rngD 0 m) := by
  have h3 : rngOk (m : Int) = true := by
    unfold rngOk
    rw [Bool.and_eq_true, decide_eq_true_eq, decide_eq_true_eq]
    have e : (2:Int) ^ 62 = 4611686018427387904 := rfl
    rw [e]
    omega
  unfold rgK
  rw [R.ok_bind]
  dsimp only
  rw [if_pos h3, Int.toNat_natCast]
theorem draws_eq (ns : List Int) (m : Nat) (hm : m ≤ 1000) : ∃ ds : List Int, ds.length = m ∧ Gd ds ∧ v__law_draws [scrD ns, .int m] = .ok (.list (ds.map .int)) := by
  obtain ⟨d1, s1, y1, w1, z1, e1, g1, l1, a1, b1⟩ := cell_loop (S := some (.pu (scrD ns))) (M := some (.pu (.int m))) (ns.take 63) [] 7 none none none (by omega) (by omega) (fun x h => absurd h List.not_mem_nil) (by
    have := List.length_take_le 63 ns
    simp only [List.length_nil]; omega)
  have hl1 : d1.length ≤ 50000 := by
    have := List.length_take_le 63 ns
    simp only [List.length_nil] at l1; omega
  obtain ⟨d2, s2, z2, e2, g2, l2⟩ := fill_loop (S := some (.pu (scrD ns))) hm ((List.range m).map fun i => (0 : Int) + (i : Nat)) d1 s1 y1 w1 z1 a1 b1 g1 hl1
  rw [List.map_map] at e2
  rw [List.length_map, List.length_range] at l2
  refine ⟨d2.take m, by rw [List.length_take]; omega, fun x hx => g2 x (List.mem_of_mem_take hx), ?_⟩
  show fnK (b__law_draws [some (.pu (scrD ns)), some (.pu (.int m)), none, none, none, none, none]) = _
  unfold b__law_draws
  have hS : slcL (asSF (varD 0)) noP (someP (cD (.int 63))) [some (.pu (scrD ns)), some (.pu (.int m)), some (.ow []), some (.pu (.int 7)), none, none, none] = .ok ((ns.take 63).map .int) := by
    rw [slcL_ap, show asSF (varD 0) [some (.pu (scrD ns)), some (.pu (.int m)), some (.ow []), some (.pu (.int 7)), none, none, none] = .ok (ns.map .int) from rfl, noP_ap, someP_ap, cD_ap, smK_ok, slLK_ok]
    rw [show (63 : Int) = ((63 : Nat) : Int) from rfl, cut_take, List.map_take]
  have hR := rg_ok hm
  simp only [sqO_ap, owO_ap, newD_ap, nilA_ap, nwK_0, owK_ok, List.set, Out.nx_seq, stO_ap, cD_ap, stK_ok, loO_ap, seqF_ap, lstF_ap, hS, lsK_ok, sqK_l, loK_ok]
  rw [List.map_nil] at e1
  rw [e1]
  rw [Out.nx_seq, sqO_ap, loO_ap, rng1F_ap, varD_succ, varD_zero, hR, loK_ok]
  rw [show rngD 0 m = List.map (PyData.int ∘ fun i : Nat => (0 : Int) + (i : Nat)) (List.range m) from rfl, e2]
  simp only [sqO_ap, Out.nx_seq, rtO_ap, lstF_ap, slcL_ap, ownD_zero, ownD_succ, noP_ap, someP_ap, varD_zero, varD_succ, smK_ok, slLK_ok, cut_take, lsK_ok, rtK_ok, fnK_rt, List.map_take]
end Mt

namespace Mt
open PySem PySem.Spec PyProof.Rows L2 TD Dn
theorem made_eq {a b : Int} (hb : b ≠ 0) (hs : b.natAbs < 2 ^ 8000) : v_made [.int a, .int b] = .ok (N (Rat.divInt a b)) := by
  obtain ⟨n, d, ha, hbd, hd, hg, hc⟩ := made_core (a := a) rfl hb
  generalize hcc : (if b < 0 then -(Int.gcd a b : Int) else Int.gcd a b) = c at ha hbd hc
  have hN : N (Rat.divInt a b) = .tuple [.int (a.fdiv c), .int (b.fdiv c)] := by
    have e := divInt_N (n := n) hd hg hc
    rw [← ha, ← hbd] at e
    unfold N
    rw [e.1, e.2]
    rw [show a.fdiv c = n by rw [ha]; exact fdiv_mul hc, show b.fdiv c = d by rw [hbd]; exact fdiv_mul hc]
  have hcs : c.natAbs < 2 ^ 8000 := by
    have : c.natAbs ≤ b.natAbs := Nat.le_of_dvd (by omega) (Int.natAbs_dvd_natAbs.mpr ⟨d, by rw [Int.mul_comm]; exact hbd⟩)
    omega
  have hok : divOk c = true := by
    unfold divOk
    have := log2_le hcs
    rw [decide_eq_true hc, decide_eq_true (by omega)]; rfl
  rw [hN]
  show fnK (b_made [some (.pu (.int a)), some (.pu (.int b)), none]) = _
  unfold b_made
  by_cases hneg : b < 0
  · rw [if_pos hneg] at hcc
    subst hcc
    simp [divisor_eq, hneg, fdivD_int, hok]
  · rw [if_neg hneg] at hcc
    subst hcc
    simp [divisor_eq, hneg, fdivD_int, hok]
section
variable {p q : Rat} {k l : Nat}
theorem sum_eq (hp : Bd k p) (hq : Bd l q) (h : k + l < 7000) : v_sum_of [N p, N q] = .ok (N (p + q)) := by
  have hs := mul_lt (dB hp) (dB hq)
  show fnK (b_sum_of [some (.pu (N p)), some (.pu (N q))]) = _
  unfold b_sum_of
  simp only [rtO_ap, callU_ap, consA_ap, bin2_ap, varD_zero, varD_succ, cD_ap, k2_ok, ixN0, ixN1, nilA_ap,
    mulD_ok hp.1 (dB hq) (by omega), mulD_ok hq.1 (dB hp) (by omega), mulD_ok (dB hp) (dB hq) (by omega), addD_int, cnK_ok, cuK_2]
  rw [made_eq (dd_ne p q) (lt_up hs (by omega)), ← add_div]
  rfl
theorem diff_eq (hp : Bd k p) (hq : Bd l q) (h : k + l < 7000) : v_difference [N p, N q] = .ok (N (p - q)) := by
  have hs := mul_lt (dB hp) (dB hq)
  show fnK (b_difference [some (.pu (N p)), some (.pu (N q))]) = _
  unfold b_difference
  simp only [rtO_ap, callU_ap, consA_ap, bin2_ap, varD_zero, varD_succ, cD_ap, k2_ok, ixN0, ixN1, nilA_ap,
    mulD_ok hp.1 (dB hq) (by omega), mulD_ok hq.1 (dB hp) (by omega), mulD_ok (dB hp) (dB hq) (by omega), subD_int, cnK_ok, cuK_2]
  rw [made_eq (dd_ne p q) (lt_up hs (by omega)), ← sub_div]
  rfl
end
end Mt

namespace Mt
open PySem PySem.Spec PyProof.Rows L2 TD Dn
section
variable {ρ : EnvS} {f g : EnvS → R D} {t t' : EnvS → R Bool} {o : EnvS → Out}
theorem or_ff (h1 : t ρ = .ok false) (h2 : t' ρ = .ok false) : orB t t' ρ = .ok false := by rw [orB_ap, h1, orK_f, h2]
theorem if_skip (h : t ρ = .ok false) : ifO t o nxO ρ = .nx ρ := by rw [ifO_ap, h, ifK_f, nxO_ap]
theorem sq_nx {ρ1 : EnvS} {o1 o2 : EnvS → Out} (h : o1 ρ = .nx ρ1) : sqO o1 o2 ρ = o2 ρ1 := by rw [sqO_ap, h, Out.nx_seq]
theorem st_nx {i : Nat} {d : D} (h : f ρ = .ok d) : stO i f ρ = .nx (ρ.set i (some (.pu d))) := by rw [stO_ap, h, stK_ok]
theorem not_f (h : t ρ = .ok true) : notB t ρ = .ok false := by rw [notB_ap, h, notK_ok]; rfl
theorem as_t (h : f ρ = .ok (.bool true)) : asF f ρ = .ok true := by rw [asF_ap, h, asB_ok]
theorem as_f (h : f ρ = .ok (.bool false)) : asF f ρ = .ok false := by rw [asF_ap, h, asB_ok]
theorem ne_same {d : D} (h : okD d = true) (hp : PyData.eqv d d = true) : neD d d = .ok (.bool false) := by
  unfold neD; rw [h, hp]; rfl
theorem as_ne {d : D} (hf : f ρ = .ok d) (hg : g ρ = .ok d) (h : okD d = true) (hp : PyData.eqv d d = true) : asF (bin2 neD f g) ρ = .ok false := by
  rw [asF_ap, bin2_ap, hf, hg, k2_ok, ne_same h hp, asB_ok]
end
theorem compO_cons {h : D → EnvS → R EnvS} {f : EnvS → R D} {ρ ρ1 : EnvS} {d v : D} {ds vs : List D} (e1 : h d ρ = .ok ρ1) (e2 : f ρ1 = .ok v) (e3 : compO h yesB f ds ρ = .ok vs) : compO h yesB f (d :: ds) ρ = .ok (v :: vs) := by
  unfold compO
  rw [e1]
  dsimp only [yesB]
  rw [e2, e3]
theorem heN (r : Rat) : PyData.eqv (N r) (N r) = true := by rw [eqv_N]; exact decide_eq_true rfl
/-! ### the law's own numbers -/
theorem frac_loop {A B : Option Sl} : ∀ (b a : Nat), ∃ n, whO (asF (bin2 gtD (varD 3) (cD (.int 0)))) (parO 2 3 (consA (varD 3) (consA (bin2 modD (varD 2) (varD 3)) nilA))) n [A, B, some (.pu (.int a)), some (.pu (.int b))] = .nx [A, B, some (.pu (.int (Nat.gcd a b : Nat))), some (.pu (.int 0))] := by
  intro b
  induction b using Nat.strongRecOn with
  | _ b ih =>
    intro a
    by_cases h : b = 0
    · subst h
      exact ⟨1, by simp [whO]⟩
    · obtain ⟨n, e⟩ := ih (a % b) (Nat.mod_lt _ (Nat.pos_of_ne_zero h)) b
      refine ⟨n + 1, ?_⟩
      have hb : (0:Int) < (b : Int) := by omega
      have hb' : decide ((b : Int) ≠ 0) = true := by simp [h]
      have hg : decide ((0:Int) < (b : Int)) = true := decide_eq_true hb
      have e1 : parO 2 3 (consA (varD 3) (consA (bin2 modD (varD 2) (varD 3)) nilA)) [A, B, some (.pu (.int a)), some (.pu (.int b))] = .nx [A, B, some (.pu (.int b)), some (.pu (.int (a % b : Nat)))] := by
        simp only [parO_ap, consA_ap, varD_succ, varD_zero, bin2_ap, nilA_ap, k2_ok, modD_int, hb', if_true, cnK_ok, parK_ok, List.set, fmodN]
      have e0 : asF (bin2 gtD (varD 3) (cD (.int 0))) [A, B, some (.pu (.int a)), some (.pu (.int b))] = .ok true := by
        simp only [asF_ap, varD_succ, varD_zero, bin2_ap, cD_ap, k2_ok, gtD_int, hg, asB_ok]
      rw [whO, e0, R.ok_out, if_pos rfl, e1]
      rw [Nat.gcd_comm a b, Nat.gcd_rec b a]
      rw [Nat.gcd_comm] at e
      exact e
theorem frac_eq {a b : Int} (hb : 0 < b) (hs : b.natAbs < 2 ^ 8000) : v__law_frac [.int a, .int b] = .ok (N (Rat.divInt a b)) := by
  have hbne : b ≠ 0 := by omega
  obtain ⟨n, d, ha, hbd, hd, hg, hc⟩ := made_core (a := a) (b := b) rfl hbne
  rw [if_neg (show ¬ b < 0 by omega)] at ha hbd hc
  generalize hcc : (Int.gcd a b : Int) = c at ha hbd hc
  have hN : N (Rat.divInt a b) = .tuple [.int (a.fdiv c), .int (b.fdiv c)] := by
    have e := divInt_N (n := n) hd hg hc
    rw [← ha, ← hbd] at e
    unfold N
    rw [e.1, e.2]
    rw [show a.fdiv c = n by rw [ha]; exact fdiv_mul hc, show b.fdiv c = d by rw [hbd]; exact fdiv_mul hc]
  have hcs : c.natAbs < 2 ^ 8000 := by
    have : c.natAbs ≤ b.natAbs := Nat.le_of_dvd (by omega) (Int.natAbs_dvd_natAbs.mpr ⟨d, by rw [Int.mul_comm]; exact hbd⟩)
    omega
  have hok : divOk c = true := by
    unfold divOk
    have := log2_le hcs
    rw [decide_eq_true hc, decide_eq_true (by omega)]; rfl
  have hA : (if a < 0 then -a else a) = (a.natAbs : Int) := by split <;> omega
  obtain ⟨m, e⟩ := frac_loop (A := some (.pu (.int a))) (B := some (.pu (.int b))) b.natAbs a.natAbs
  have hbn : ((b.natAbs : Nat) : Int) = b := by omega
  have hgn : ((Nat.gcd a.natAbs b.natAbs : Nat) : Int) = c := hcc
  rw [hgn, hbn] at e
  have e2 := whX_eq m e (by intro h; cases h)
  rw [hN]
  show fnK (b__law_frac [some (.pu (.int a)), some (.pu (.int b)), none, none]) = _
  unfold b__law_frac
  refine (congrArg fnK (sq_nx (ρ1 := [some (.pu (.int a)), some (.pu (.int b)), some (.pu (.int a.natAbs)), some (.pu (.int b))]) ?_)).trans ?_
  · simp only [parO_ap, consA_ap, callF_ap, varD_zero, varD_succ, nilA_ap, cnK_ok, R.ok_bind, absK_int, hA, parK_ok, List.set]
  refine (congrArg fnK (sq_nx e2)).trans ?_
  simp only [rtO_ap, tupD_ap, consA_ap, bin2_ap, varD_zero, varD_succ, nilA_ap, k2_ok, fdivD_int, hok, if_true, cnK_ok, tuK_2, rtK_ok, fnK_rt]
section
variable {p q : Rat} {k l : Nat}
theorem lplus_eq (hp : Bd k p) (hq : Bd l q) (h : k + l < 7000) : v__law_plus [N p, N q] = .ok (N (p + q)) := by
  have hs := mul_lt (dB hp) (dB hq)
  show fnK (b__law_plus [some (.pu (N p)), some (.pu (N q))]) = _
  unfold b__law_plus
  simp only [rtO_ap, callU_ap, consA_ap, bin2_ap, varD_zero, varD_succ, cD_ap, k2_ok, ixN0, ixN1, nilA_ap,
    mulD_ok hp.1 (dB hq) (by omega), mulD_ok hq.1 (dB hp) (by omega), mulD_ok (dB hp) (dB hq) (by omega), addD_int, cnK_ok, cuK_2]
  have hpos : (0 : Int) < p.den * q.den := Int.mul_pos (by have := p.den_pos; omega) (by have := q.den_pos; omega)
  rw [frac_eq hpos (lt_up hs (by omega)), ← add_div]
  rfl
theorem less_eq (hp : Bd k p) (hq : Bd l q) (h : k + l < 7000) : v__law_less [N p, N q] = .ok (.bool (decide (p < q))) := by
  show fnK (b__law_less [some (.pu (N p)), some (.pu (N q))]) = _
  unfold b__law_less
  simp only [rtO_ap, bin2_ap, varD_zero, varD_succ, cD_ap, k2_ok, ixN0, ixN1, mulD_ok hp.1 (dB hq) (by omega), mulD_ok hq.1 (dB hp) (by omega), ltD_int, rtK_ok, fnK_rt]
  congr 2
  rw [decide_eq_decide, Rat.lt_iff]
theorem ord_le (p q : Rat) : sgI (ordI p q) ≤ 0 ↔ p ≤ q := by
  have h1 := sg_pos (ordI p q)
  have h2 := ord_pos p q
  rw [← Rat.not_lt, ← h2, ← h1]
  omega
/-! ### boxes -/
structure Bx where
  xl : Rat
  xh : Rat
  yl : Rat
  yh : Rat
def Bx.lo (b : Bx) (k : Nat) : Rat := if k = 0 then b.xl else b.yl
def Bx.hi (b : Bx) (k : Nat) : Rat := if k = 0 then b.xh else b.yh
def spD (p q : Rat) : D := .tuple [N p, N q]
def bxD (b : Bx) : D := .tuple [spD b.xl b.xh, spD b.yl b.yh]
structure Bx.Ok (b : Bx) : Prop where
  x : b.xl ≤ b.xh
  y : b.yl ≤ b.yh
  bxl : Bd 100 b.xl
  bxh : Bd 100 b.xh
  byl : Bd 100 b.yl
  byh : Bd 100 b.yh
@[simp] theorem ixS0 (p q : Rat) : ixD (spD p q) (.int 0) = .ok (N p) := rfl
@[simp] theorem ixS1 (p q : Rat) : ixD (spD p q) (.int 1) = .ok (N q) := rfl
@[simp] theorem ixB0 (b : Bx) : ixD (bxD b) (.int 0) = .ok (spD b.xl b.xh) := rfl
@[simp] theorem ixB1 (b : Bx) : ixD (bxD b) (.int 1) = .ok (spD b.yl b.yh) := rfl
theorem is_span_eq (hp : Bd k p) (hq : Bd l q) (h : k + l < 7000) (hle : p ≤ q) : v_is_span [spD p q] = .ok (.bool true) := by
  have h1 : decide (sgI (ordI p q) ≤ 0) = true := decide_eq_true ((ord_le p q).mpr hle)
  show fnK (b_is_span [some (.pu (spD p q))]) = _
  unfold b_is_span spD
  simp [isiK, tyName, kit_tt, neD_int, isnum_N, order_eq hp hq h, -decide_eq_true_eq, h1]
theorem is_box_eq {b : Bx} (h : b.Ok) : v_is_box [bxD b] = .ok (.bool true) := by
  show fnK (b_is_box [some (.pu (bxD b))]) = _
  unfold b_is_box bxD
  simp [isiK, tyName, kit_tt, eqD_int, is_span_eq h.bxl h.bxh (by omega) h.x, is_span_eq h.byl h.byh (by omega) h.y]
theorem check_boxes_eq {bs : List Bx} (h : ∀ b ∈ bs, b.Ok) (hl : bs.length ≤ 60) : v_check_boxes [.tuple (bs.map bxD)] = .ok .none := by
  show fnK (b_check_boxes [some (.pu (.tuple (bs.map bxD))), none]) = _
  unfold b_check_boxes
  have e : lcF (seqF (varD 0)) (nmG 1) yesB (callU 1 v_is_box (consA (varD 1) nilA)) [1] [some (.pu (.tuple (bs.map bxD))), none] = .ok ((bs.map bxD).map fun _ => .bool true) := by
    rw [lcF_ap, seqF_ap, varD_zero, sqK_t, lcK_ok (by unfold lineOk; rw [List.length_map]; exact decide_eq_true (by omega))]
    refine compO_map (fun _ => .bool true) _ fun d hd => ⟨_, rfl, ?_⟩
    obtain ⟨b, hb, rfl⟩ := List.mem_map.mp hd
    simp [is_box_eq (h b hb)]
  have hlen : decide ((60 : Int) < ((bs.map bxD).length : Nat)) = false := decide_eq_false (by rw [List.length_map]; omega)
  refine congrArg fnK (if_skip (o := fun ρ => .ex "BadBoxes" ρ) (or_ff (not_f (as_t ?_)) (or_ff (as_f ?_) (not_f (as_t ?_)))))
  · simp [isiK, tyName, kit_tt]
  · simp only [bin2_ap, callF_ap, consA_ap, varD_zero, nilA_ap, cnK_ok, R.ok_bind, lenK_tuple, cD_ap, k2_ok, gtD_int, hlen]
  · rw [callF_ap, e, R.ok_bind, allK_trues]
theorem spans_meet_eq {a b c d : Rat} (ha : Bd 100 a) (hb : Bd 100 b) (hc : Bd 100 c) (hd : Bd 100 d) : v_spans_meet [spD a b, spD c d] = .ok (.bool (decide (a ≤ d) && decide (c ≤ b))) := by
  have e1 : decide (sgI (ordI a d) ≤ 0) = decide (a ≤ d) := by rw [decide_eq_decide]; exact ord_le a d
  have e2 : decide (sgI (ordI c b) ≤ 0) = decide (c ≤ b) := by rw [decide_eq_decide]; exact ord_le c b
  show fnK (b_spans_meet [some (.pu (spD a b)), some (.pu (spD c d))]) = _
  unfold b_spans_meet
  simp only [rtO_ap, andV_ap, bin2_ap, callU_ap, consA_ap, varD_zero, varD_succ, cD_ap, k2_ok, ixS0, ixS1, nilA_ap, cnK_ok, cuK_2, order_eq ha hd (by omega), order_eq hc hb (by omega), leD_int, e1, e2, asB_ok]
  cases decide (a ≤ d)
  · rfl
  · simp only [andVK_t, bin2_ap, callU_ap, consA_ap, varD_zero, varD_succ, cD_ap, k2_ok, ixS0, ixS1, nilA_ap, cnK_ok, cuK_2, order_eq hc hb (by omega : 100 + 100 < 7000), leD_int, e2, rtK_ok, fnK_rt, Bool.true_and]
def xm (a b : Bx) : Bool := decide (a.xl ≤ b.xh) && decide (b.xl ≤ a.xh)
def ym (a b : Bx) : Bool := decide (a.yl ≤ b.yh) && decide (b.yl ≤ a.yh)
theorem boxes_meet_eq {a b : Bx} (ha : a.Ok) (hb : b.Ok) : v_boxes_meet [bxD a, bxD b] = .ok (.bool (xm a b && ym a b)) := by
  have e : v_boxes_meet_by [bxD a, bxD b] = .ok (.bool (xm a b && ym a b)) := by
    show fnK (b_boxes_meet_by [some (.pu (bxD a)), some (.pu (bxD b))]) = _
    unfold b_boxes_meet_by xm ym
    simp only [rtO_ap, andV_ap, bin2_ap, callU_ap, consA_ap, varD_zero, varD_succ, cD_ap, k2_ok, ixB0, ixB1, nilA_ap, cnK_ok, cuK_2, spans_meet_eq ha.bxl ha.bxh hb.bxl hb.bxh, spans_meet_eq ha.byl ha.byh hb.byl hb.byh, asB_ok]
    cases (decide (a.xl ≤ b.xh) && decide (b.xl ≤ a.xh))
    · rfl
    · simp only [andVK_t, bin2_ap, callU_ap, consA_ap, varD_zero, varD_succ, cD_ap, k2_ok, ixB0, ixB1, nilA_ap, cnK_ok, cuK_2, spans_meet_eq ha.byl ha.byh hb.byl hb.byh, rtK_ok, fnK_rt, Bool.true_and]
  have hc : v_check_boxes_all [.tuple [bxD a, bxD b]] = .ok .none := by
    show fnK (b_check_boxes_all [some (.pu (.tuple [bxD a, bxD b])), none]) = _
    unfold b_check_boxes_all
    have e : lcF (seqF (varD 0)) (nmG 1) yesB (callU 1 v_is_box (consA (varD 1) nilA)) [1] [some (.pu (.tuple [bxD a, bxD b])), none] = .ok [.bool true, .bool true] := by
      rw [lcF_ap, seqF_ap, varD_zero, sqK_t, lcK_ok rfl]
      exact compO_cons rfl (by simp [is_box_eq ha]) (compO_cons rfl (by simp [is_box_eq hb]) rfl)
    refine congrArg fnK (if_skip (o := fun ρ => .ex "BadBox" ρ) (not_f (as_t ?_)))
    rw [callF_ap, e, R.ok_bind]
    rfl
  show fnK (b_boxes_meet [some (.pu (bxD a)), some (.pu (bxD b))]) = _
  unfold b_boxes_meet
  simp [hc, e]
theorem law_meet_eq {a b : Bx} (ha : a.Ok) (hb : b.Ok) : v__law_meet [bxD a, bxD b] = .ok (.bool (xm a b && ym a b)) := by
  show fnK (b__law_meet [some (.pu (bxD a)), some (.pu (bxD b)), none]) = _
  unfold b__law_meet
  have el : lcF (seqF (tupD (consA (cD (.int 0)) (consA (cD (.int 1)) nilA)))) (nmG 2) yesB (orV (callU 2 v__law_less (consA (bin2 ixD (bin2 ixD (varD 0) (varD 2)) (cD (.int 1))) (consA (bin2 ixD (bin2 ixD (varD 1) (varD 2)) (cD (.int 0))) nilA))) (callU 2 v__law_less (consA (bin2 ixD (bin2 ixD (varD 1) (varD 2)) (cD (.int 1))) (consA (bin2 ixD (bin2 ixD (varD 0) (varD 2)) (cD (.int 0))) nilA)))) [2] [some (.pu (bxD a)), some (.pu (bxD b)), none] = .ok [.bool (!xm a b), .bool (!ym a b)] := by
    rw [lcF_ap, show seqF (tupD (consA (cD (.int 0)) (consA (cD (.int 1)) nilA))) [some (.pu (bxD a)), some (.pu (bxD b)), none] = .ok [.int 0, .int 1] from rfl, lcK_ok rfl]
    refine compO_cons (ρ1 := [some (.pu (bxD a)), some (.pu (bxD b)), some (.pu (.int 0))]) rfl ?_ (compO_cons (ρ1 := [some (.pu (bxD a)), some (.pu (bxD b)), some (.pu (.int 1))]) rfl ?_ rfl)
    · simp only [orV_ap, callU_ap, consA_ap, bin2_ap, varD_zero, varD_succ, cD_ap, k2_ok, ixB0, ixS0, ixS1, nilA_ap, cnK_ok, cuK_2, less_eq ha.bxh hb.bxl (by omega), less_eq hb.bxh ha.bxl (by omega), asB_ok]
      unfold xm
      by_cases h1 : a.xh < b.xl
      · rw [decide_eq_true h1, orVK_t, decide_eq_false (Rat.not_le.mpr h1), Bool.and_false]; rfl
      · rw [decide_eq_false h1, orVK_f, decide_eq_true (Rat.not_lt.mp h1), Bool.and_true]
        simp only [callU_ap, consA_ap, bin2_ap, varD_zero, varD_succ, cD_ap, k2_ok, ixB0, ixS0, ixS1, nilA_ap, cnK_ok, cuK_2, less_eq hb.bxh ha.bxl (by omega)]
        by_cases h2 : b.xh < a.xl
        · rw [decide_eq_true h2, decide_eq_false (Rat.not_le.mpr h2)]; rfl
        · rw [decide_eq_false h2, decide_eq_true (Rat.not_lt.mp h2)]; rfl
    · simp only [orV_ap, callU_ap, consA_ap, bin2_ap, varD_zero, varD_succ, cD_ap, k2_ok, ixB1, ixS0, ixS1, nilA_ap, cnK_ok, cuK_2, less_eq ha.byh hb.byl (by omega), less_eq hb.byh ha.byl (by omega), asB_ok]
      unfold ym
      by_cases h1 : a.yh < b.yl
      · rw [decide_eq_true h1, orVK_t, decide_eq_false (Rat.not_le.mpr h1), Bool.and_false]; rfl
      · rw [decide_eq_false h1, orVK_f, decide_eq_true (Rat.not_lt.mp h1), Bool.and_true]
        simp only [callU_ap, consA_ap, bin2_ap, varD_zero, varD_succ, cD_ap, k2_ok, ixB1, ixS0, ixS1, nilA_ap, cnK_ok, cuK_2, less_eq hb.byh ha.byl (by omega)]
        by_cases h2 : b.yh < a.yl
        · rw [decide_eq_true h2, decide_eq_false (Rat.not_le.mpr h2)]; rfl
        · rw [decide_eq_false h2, decide_eq_true (Rat.not_lt.mp h2)]; rfl
  simp only [rtO_ap, notV_ap, callF_ap, el, R.ok_bind]
  cases xm a b <;> cases ym a b <;> rfl
end
end Mt

namespace Mt
open PySem PySem.Spec PyProof.Rows L2 TD Dn
theorem bd_frac {a b : Int} (hb : 0 < b) (ha : a.natAbs < 2 ^ 5) (hb2 : b.natAbs < 2 ^ 5) : Bd 5 (Rat.divInt a b) := by
  have h := divInt_bd (a := a) (show b ≠ 0 by omega)
  exact ⟨Nat.lt_of_le_of_lt h.1 ha, Nat.lt_of_le_of_lt h.2 hb2⟩
theorem n32 {a : Int} (h : a.natAbs ≤ 30) : a.natAbs < 2 ^ 5 := by
  have : (2:Nat) ^ 5 = 32 := by decide
  omega
theorem frac_ok {a b : Int} (hb : 0 < b) (hb2 : b.natAbs ≤ 30) : v__law_frac [.int a, .int b] = .ok (N (Rat.divInt a b)) := frac_eq hb (lt_up (n32 hb2) (by omega))
noncomputable def BA : EnvS → Out := (sqO (stO 6 (callU 2 v__law_frac (consA (bin2 subD (bin2 modD (callF intG (consA (bin2 ixD (varD 0) (bin2 addD (bin2 mulD (cD (.int 4)) (varD 3)) (varD 5))) nilA)) (cD (.int 25))) (cD (.int 12))) (consA (bin2 addD (cD (.int 1)) (bin2 modD (bin2 fdivD (callF intG (consA (bin2 ixD (varD 0) (bin2 addD (bin2 mulD (cD (.int 4)) (varD 3)) (varD 5))) nilA)) (cD (.int 25))) (cD (.int 3)))) nilA))))
  (appO 4 (tupD (consA (varD 6) (consA (callU 2 v__law_plus (consA (varD 6) (consA (callU 2 v__law_frac (consA (bin2 modD (callF intG (consA (bin2 ixD (varD 0) (bin2 addD (bin2 addD (bin2 mulD (cD (.int 4)) (varD 3)) (cD (.int 2))) (varD 5))) nilA)) (cD (.int 9))) (consA (bin2 addD (cD (.int 1)) (bin2 modD (bin2 fdivD (callF intG (consA (bin2 ixD (varD 0) (bin2 addD (bin2 addD (bin2 mulD (cD (.int 4)) (varD 3)) (cD (.int 2))) (varD 5))) nilA)) (cD (.int 9))) (cD (.int 2)))) nilA))) nilA))) nilA)))))
theorem axis_step {M F z6 : Option Sl} {ds : List Int} (hg : ∀ x ∈ ds, 0 ≤ x) {k j : Nat} (hds : ds.length ≤ 1000) (hk : 4 * k + 4 ≤ ds.length) (hj : j < 2) {sp : List D} (hs : sp.length ≤ 10) :
    ∃ p q : Rat, p ≤ q ∧ Bd 100 p ∧ Bd 100 q ∧ BA [some (.pu (.list (ds.map .int))), M, F, some (.pu (.int (k : Nat))), some (.ow sp), some (.pu (.int (j : Nat))), z6] = .nx [some (.pu (.list (ds.map .int))), M, F, some (.pu (.int (k : Nat))), some (.ow (sp ++ [spD p q])), some (.pu (.int (j : Nat))), some (.pu (N p))] := by
  have get : ∀ i, i < ds.length → ∃ x : Int, 0 ≤ x ∧ ixD (.list (ds.map .int)) (.int (i : Nat)) = .ok (.int x) := fun i hi =>
    ⟨ds[i], hg _ (List.getElem_mem hi), ixD_list_nat (by rw [List.getElem?_map, List.getElem?_eq_getElem hi]; rfl)⟩
  obtain ⟨x, hx, e1⟩ := get (4 * k + j) (by omega)
  obtain ⟨w, hw, e2⟩ := get (4 * k + 2 + j) (by omega)
  have c1 : ((4 * k + j : Nat) : Int) = 4 * (k : Nat) + (j : Nat) := by omega
  have c2 : ((4 * k + 2 + j : Nat) : Int) = 4 * (k : Nat) + 2 + (j : Nat) := by omega
  rw [c1] at e1
  rw [c2] at e2
  have m4 : mulD (.int 4) (.int (k : Nat)) = .ok (.int (4 * (k : Nat))) := by
    refine mulD_ok (k := 3) (l := 10) (by decide) ?_ (by decide)
    have : (2:Nat) ^ 10 = 1024 := by decide
    omega
  have x1 := Int.emod_nonneg x (show (25 : Int) ≠ 0 by omega)
  have x2 := Int.emod_lt_of_pos x (show (0 : Int) < 25 by omega)
  have x3 := Int.emod_nonneg (x / 25) (show (3 : Int) ≠ 0 by omega)
  have x4 := Int.emod_lt_of_pos (x / 25) (show (0 : Int) < 3 by omega)
  have w1 := Int.emod_nonneg w (show (9 : Int) ≠ 0 by omega)
  have w2 := Int.emod_lt_of_pos w (show (0 : Int) < 9 by omega)
  have w3 := Int.emod_nonneg (w / 9) (show (2 : Int) ≠ 0 by omega)
  have w4 := Int.emod_lt_of_pos (w / 9) (show (0 : Int) < 2 by omega)
  generalize ha : x % 25 - 12 = a
  generalize hb : 1 + x / 25 % 3 = b
  generalize hc : w % 9 = c at w1 w2
  generalize hd : 1 + w / 9 % 2 = d
  have f1 : v__law_frac [.int a, .int b] = .ok (N (Rat.divInt a b)) := frac_ok (by omega) (by omega)
  have f2 : v__law_frac [.int c, .int d] = .ok (N (Rat.divInt c d)) := frac_ok (by omega) (by omega)
  have b1 : Bd 5 (Rat.divInt a b) := bd_frac (by omega) (n32 (by omega)) (n32 (by omega))
  have b2 : Bd 5 (Rat.divInt c d) := bd_frac (by omega) (n32 (by omega)) (n32 (by omega))
  have hr : (0 : Rat) ≤ Rat.divInt c d := Rat.divInt_nonneg (by omega) (by omega)
  have pl := lplus_eq b1 b2 (by omega)
  refine ⟨Rat.divInt a b, Rat.divInt a b + Rat.divInt c d, ?_, b1.up (by omega), (add_bd b1 b2).up (by omega), ?_⟩
  · have := (Rat.add_le_add_left (c := Rat.divInt a b)).mpr hr
    rwa [Rat.add_zero] at this
  unfold BA
  refine (sq_nx (st_nx (d := N (Rat.divInt a b)) ?_)).trans ?_
  · simp only [callU_ap, consA_ap, bin2_ap, callF_ap, varD_zero, varD_succ, cD_ap, nilA_ap, k2_ok, m4, addD_int, e1, cnK_ok, R.ok_bind, intG_int, modK 25 (by omega), subD_int, ha, fdivK 25 (by omega) (by omega), modK 3 (by omega), hb, cuK_2, f1]
  simp only [List.set]
  rw [appO_ap]
  have ev : tupD (consA (varD 6) (consA (callU 2 v__law_plus (consA (varD 6) (consA (callU 2 v__law_frac (consA (bin2 modD (callF intG (consA (bin2 ixD (varD 0) (bin2 addD (bin2 addD (bin2 mulD (cD (.int 4)) (varD 3)) (cD (.int 2))) (varD 5))) nilA)) (cD (.int 9))) (consA (bin2 addD (cD (.int 1)) (bin2 modD (bin2 fdivD (callF intG (consA (bin2 ixD (varD 0) (bin2 addD (bin2 addD (bin2 mulD (cD (.int 4)) (varD 3)) (cD (.int 2))) (varD 5))) nilA)) (cD (.int 9))) (cD (.int 2)))) nilA))) nilA))) nilA))
      [some (.pu (.list (ds.map .int))), M, F, some (.pu (.int (k : Nat))), some (.ow sp), some (.pu (.int (j : Nat))), some (.pu (N (Rat.divInt a b)))] = .ok (spD (Rat.divInt a b) (Rat.divInt a b + Rat.divInt c d)) := by
    simp only [tupD_ap, callU_ap, consA_ap, bin2_ap, callF_ap, varD_zero, varD_succ, cD_ap, nilA_ap, k2_ok, m4, addD_int, e2, cnK_ok, R.ok_bind, intG_int, modK 9 (by omega), hc, fdivK 9 (by omega) (by omega), modK 2 (by omega), hd, cuK_2, f2, pl, tuK_2]
    rfl
  rw [ev]
  exact appK_ok (by unfold lineOk; exact decide_eq_true (by omega))
noncomputable def BK : EnvS → Out := (sqO (owO 4 (newD nilA))
  (sqO (loO (seqF (tupD (consA (cD (.int 0)) (consA (cD (.int 1)) nilA)))) (nmG 5) BA)
  (appO 2 (callF (fun ds => .ok (.tuple ds)) (ownD 4)))))
theorem box_step {M z4 z5 z6 : Option Sl} {ds : List Int} (hg : ∀ x ∈ ds, 0 ≤ x) (hds : ds.length ≤ 1000) {k : Nat} (hk : 4 * k + 4 ≤ ds.length) {bs : List Bx} (hl : bs.length ≤ 1000) :
    ∃ (b : Bx) (w4 w5 w6 : Option Sl), b.Ok ∧ BK [some (.pu (.list (ds.map .int))), M, some (.ow (bs.map bxD)), some (.pu (.int (k : Nat))), z4, z5, z6] = .nx [some (.pu (.list (ds.map .int))), M, some (.ow ((bs ++ [b]).map bxD)), some (.pu (.int (k : Nat))), w4, w5, w6] := by
  obtain ⟨p, q, h1, h2, h3, e1⟩ := axis_step (M := M) (F := some (.ow (bs.map bxD))) (z6 := z6) hg hds hk (j := 0) (by omega) (sp := []) (by simp)
  obtain ⟨r, s, h4, h5, h6, e2⟩ := axis_step (M := M) (F := some (.ow (bs.map bxD))) (z6 := some (.pu (N p))) hg hds hk (j := 1) (by omega) (sp := [] ++ [spD p q]) (by simp)
  refine ⟨⟨p, q, r, s⟩, some (.ow [spD p q, spD r s]), some (.pu (.int 1)), some (.pu (N r)), ⟨h1, h4, h2, h3, h5, h6⟩, ?_⟩
  unfold BK
  refine (sq_nx (ρ1 := [some (.pu (.list (ds.map .int))), M, some (.ow (bs.map bxD)), some (.pu (.int (k : Nat))), some (.ow []), z5, z6]) rfl).trans ?_
  refine (sq_nx (ρ1 := [some (.pu (.list (ds.map .int))), M, some (.ow (bs.map bxD)), some (.pu (.int (k : Nat))), some (.ow [spD p q, spD r s]), some (.pu (.int 1)), some (.pu (N r))]) ?_).trans ?_
  · rw [loO_ap, show seqF (tupD (consA (cD (.int 0)) (consA (cD (.int 1)) nilA))) [some (.pu (.list (ds.map .int))), M, some (.ow (bs.map bxD)), some (.pu (.int (k : Nat))), some (.ow []), z5, z6] = .ok [.int 0, .int 1] from rfl, loK_ok]
    rw [forO_cons (ρ1 := [some (.pu (.list (ds.map .int))), M, some (.ow (bs.map bxD)), some (.pu (.int (k : Nat))), some (.ow []), some (.pu (.int 0)), z6]) rfl e1]
    rw [forO_cons (ρ1 := [some (.pu (.list (ds.map .int))), M, some (.ow (bs.map bxD)), some (.pu (.int (k : Nat))), some (.ow ([] ++ [spD p q])), some (.pu (.int 1)), some (.pu (N p))]) rfl e2]
    rfl
  · rw [appO_ap]
    show appK 2 (some (some (.ow (bs.map bxD)))) (.ok (.tuple [spD p q, spD r s])) _ = _
    rw [appK_ok (by unfold lineOk; rw [List.length_map]; exact decide_eq_true (by omega)), List.map_append]
    rfl
theorem boxes_loop {M : Option Sl} {ds : List Int} (hg : ∀ x ∈ ds, 0 ≤ x) (hds : ds.length ≤ 1000) : ∀ (ks : List Nat) (bs : List Bx) (z3 z4 z5 z6 : Option Sl), (∀ k ∈ ks, 4 * k + 4 ≤ ds.length) → (∀ b ∈ bs, b.Ok) → bs.length + ks.length ≤ 1000 →
    ∃ (bs' : List Bx) (w3 w4 w5 w6 : Option Sl), (∀ b ∈ bs', b.Ok) ∧ bs'.length = bs.length + ks.length ∧ forO (nmG 3) BK (ks.map fun i => .int (0 + (i : Nat))) [some (.pu (.list (ds.map .int))), M, some (.ow (bs.map bxD)), z3, z4, z5, z6] = .nx [some (.pu (.list (ds.map .int))), M, some (.ow (bs'.map bxD)), w3, w4, w5, w6] := by
  intro ks
  induction ks with
  | nil => exact fun bs z3 z4 z5 z6 _ hb _ => ⟨bs, z3, z4, z5, z6, hb, rfl, rfl⟩
  | cons k ks ih =>
    intro bs z3 z4 z5 z6 hk hb hlen
    rw [List.length_cons] at hlen
    obtain ⟨b, w4, w5, w6, ho, e⟩ := box_step (M := M) (z4 := z4) (z5 := z5) (z6 := z6) hg hds (hk k List.mem_cons_self) (bs := bs) (by omega)
    obtain ⟨bs', v3, v4, v5, v6, ho', hl', e'⟩ := ih (bs ++ [b]) (some (.pu (.int (k : Nat)))) w4 w5 w6 (fun j hj => hk j (List.mem_cons_of_mem _ hj)) (fun c hc => by
      rcases List.mem_append.mp hc with hc | hc
      · exact hb c hc
      · rw [List.mem_singleton.mp hc]; exact ho) (by rw [List.length_append, List.length_singleton]; omega)
    refine ⟨bs', v3, v4, v5, v6, ho', by rw [hl', List.length_append, List.length_singleton, List.length_cons]; omega, ?_⟩
    rw [List.map_cons, Int.zero_add, forO_cons (ρ1 := [some (.pu (.list (ds.map .int))), M, some (.ow (bs.map bxD)), some (.pu (.int (k : Nat))), z4, z5, z6]) rfl e]
    exact e'
theorem boxes_eq {ds : List Int} (hg : ∀ x ∈ ds, 0 ≤ x) (hds : ds.length ≤ 1000) {m : Nat} (hm : 4 * m ≤ ds.length) : ∃ bs : List Bx, bs.length = m ∧ (∀ b ∈ bs, b.Ok) ∧ v__law_boxes [.list (ds.map .int), .int (m : Nat)] = .ok (.tuple (bs.map bxD)) := by
  obtain ⟨bs, w3, w4, w5, w6, ho, hl, e⟩ := boxes_loop (M := some (.pu (.int (m : Nat)))) hg hds (List.range m) [] none none none none (fun k hk => by have := List.mem_range.mp hk; omega) (fun b hb => absurd hb List.not_mem_nil) (by rw [List.length_range, List.length_nil]; omega)
  refine ⟨bs, by rw [hl, List.length_range, List.length_nil, Nat.zero_add], ho, ?_⟩
  unfold v__law_boxes
  rw [fnR_ap, show argS 7 [.list (ds.map .int), .int (m : Nat)] = [some (.pu (.list (ds.map .int))), some (.pu (.int (m : Nat))), none, none, none, none, none] from rfl]
  unfold b__law_boxes
  refine (congrArg fnK (sq_nx (ρ1 := [some (.pu (.list (ds.map .int))), some (.pu (.int (m : Nat))), some (.ow []), none, none, none, none]) rfl)).trans ?_
  refine (congrArg fnK (sq_nx (ρ1 := [some (.pu (.list (ds.map .int))), some (.pu (.int (m : Nat))), some (.ow (bs.map bxD)), w3, w4, w5, w6]) ?_)).trans ?_
  · rw [loO_ap, rng1F_ap, varD_succ, varD_zero, rg_ok (by omega), loK_ok]
    exact e
  · rfl
end Mt

namespace Mt
open PySem PySem.Spec PyProof.Rows L2 TD Dn
/-! ### events -/
structure Ky where
  q : Rat
  w : Nat
  i : Nat
def Ky.lt (a b : Ky) : Prop := a.q < b.q ∨ (a.q = b.q ∧ (a.w < b.w ∨ (a.w = b.w ∧ a.i < b.i)))
theorem rlt_trans {a b c : Rat} (h1 : a < b) (h2 : b < c) : a < c := by
  refine Rat.lt_of_le_of_ne (Rat.le_trans (Rat.le_of_lt h1) (Rat.le_of_lt h2)) fun e => ?_
  subst e
  exact absurd (Rat.le_of_lt h1) (Rat.not_le.mpr h2)
theorem rlt_irr {a b : Rat} (h1 : a < b) : ¬ b < a := fun h2 => absurd (Rat.le_of_lt h1) (Rat.not_le.mpr h2)
theorem Ky.trans {a b c : Ky} (h1 : a.lt b) (h2 : b.lt c) : a.lt c := by
  unfold Ky.lt at *
  rcases h1 with h1 | ⟨e1, h1⟩ <;> rcases h2 with h2 | ⟨e2, h2⟩
  · exact .inl (rlt_trans h1 h2)
  · exact .inl (e2 ▸ h1)
  · exact .inl (e1 ▸ h2)
  · exact .inr ⟨e1.trans e2, by omega⟩
theorem Ky.asymm {a b : Ky} (h1 : a.lt b) : ¬ b.lt a := fun h2 => by
  unfold Ky.lt at *
  rcases h1 with h1 | ⟨e1, h1⟩ <;> rcases h2 with h2 | ⟨e2, h2⟩
  · exact rlt_irr h1 h2
  · rw [e2] at h1; exact Rat.lt_irrefl h1
  · rw [e1] at h2; exact Rat.lt_irrefl h2
  · omega
theorem Ky.tri {a b : Ky} (h1 : ¬ a.lt b) (h2 : ¬ b.lt a) : a = b := by
  unfold Ky.lt at *
  have e : a.q = b.q := Rat.le_antisymm (Rat.not_lt.mp fun h => h2 (.inl h)) (Rat.not_lt.mp fun h => h1 (.inl h))
  have h3 : ¬ (a.w < b.w ∨ (a.w = b.w ∧ a.i < b.i)) := fun h => h1 (.inr ⟨e, h⟩)
  have h4 : ¬ (b.w < a.w ∨ (b.w = a.w ∧ b.i < a.i)) := fun h => h2 (.inr ⟨e.symm, h⟩)
  cases a; cases b
  simp only at e h3 h4
  subst e
  congr 1 <;> omega
theorem Ky.le_trans {a b c : Ky} (h1 : ¬ b.lt a) (h2 : ¬ c.lt b) : ¬ c.lt a := fun h => by
  by_cases h3 : a.lt b
  · exact h2 (Ky.trans h h3)
  · have := Ky.tri h3 h1
    subst this
    exact h2 h
instance decLt (a b : Ky) : Decidable (a.lt b) := by unfold Ky.lt; infer_instance
def ltK (a b : Ky) : Bool := decide (a.lt b)
def rowD (k : Ky) : D := .tuple [N k.q, .tuple [.int (k.w : Nat), .int (k.i : Nat)]]
@[simp] theorem ixR0 (k : Ky) : ixD (rowD k) (.int 0) = .ok (N k.q) := rfl
@[simp] theorem ixR1 (k : Ky) : ixD (rowD k) (.int 1) = .ok (.tuple [.int (k.w : Nat), .int (k.i : Nat)]) := rfl
theorem ltD_two (a b c d : Int) : ltD (.tuple [.int a, .int b]) (.tuple [.int c, .int d]) = .ok (.bool (decide (a < c ∨ (a = c ∧ b < d)))) := by
  show R.ok (PyData.bool (HT.lexLt [a, b] [c, d])) = _
  congr 2
  rw [HT.lexLt_cons]
  by_cases h : a = c
  · rw [if_pos h, HT.lexLt_cons]
    by_cases h2 : b = d
    · rw [if_pos h2, HT.lexLt_nil_nil]
      symm
      exact decide_eq_false (by omega)
    · rw [if_neg h2, decide_eq_decide]
      omega
  · rw [if_neg h, decide_eq_decide]
    omega
theorem ahead_eq {a b : Ky} (ha : Bd 100 a.q) (hb : Bd 100 b.q) : v__is_ahead [rowD a, rowD b] = .ok (.bool (ltK a b)) := by
  show fnK (b__is_ahead [some (.pu (rowD a)), some (.pu (rowD b)), none]) = _
  unfold b__is_ahead
  simp only [sqO_ap, stO_ap, callU_ap, consA_ap, bin2_ap, varD_zero, varD_succ, cD_ap, k2_ok, ixR0, ixR1, nilA_ap, cnK_ok, cuK_2, order_eq ha hb (by omega), stK_ok, List.set, Out.nx_seq, rtO_ap, orV_ap, ltD_int, asB_ok]
  by_cases h1 : a.q < b.q
  · have : decide (sgI (ordI a.q b.q) < 0) = true := decide_eq_true ((sg_neg _).mpr ((ord_neg _ _).mpr h1))
    rw [this, orVK_t, rtK_ok, fnK_rt]
    congr 2
    exact (decide_eq_true (show a.lt b from .inl h1)).symm
  · have : decide (sgI (ordI a.q b.q) < 0) = false := decide_eq_false fun h => h1 ((ord_neg _ _).mp ((sg_neg _).mp h))
    rw [this, orVK_f]
    simp only [andV_ap, bin2_ap, varD_zero, varD_succ, cD_ap, k2_ok, eqD_int, asB_ok]
    by_cases h2 : a.q = b.q
    · have : sgI (ordI a.q b.q) = 0 := by rw [(ord_zero _ _).mpr h2]; rfl
      rw [decide_eq_true this, andVK_t]
      simp only [bin2_ap, varD_zero, varD_succ, cD_ap, k2_ok, ixR1, ltD_two, rtK_ok, fnK_rt]
      congr 2
      unfold ltK
      rw [decide_eq_decide]
      unfold Ky.lt
      constructor
      · intro h; exact .inr ⟨h2, by omega⟩
      · rintro (h | ⟨_, h⟩)
        · exact absurd h h1
        · omega
    · have : ¬ sgI (ordI a.q b.q) = 0 := fun h => by
        have h3 : ordI a.q b.q = 0 := by
          have := sg_neg (ordI a.q b.q)
          have := sg_pos (ordI a.q b.q)
          omega
        exact h2 ((ord_zero _ _).mp h3)
      rw [decide_eq_false this, andVK_f, rtK_ok, fnK_rt]
      refine congrArg (fun b => R.ok (PyData.bool b)) (Eq.symm (decide_eq_false ?_))
      rintro (h | ⟨h, _⟩)
      · exact h1 h
      · exact h2 h
/-! ### insertion -/
abbrev SrtK (l : List Ky) : Prop := l.Pairwise fun a b => ¬ b.lt a
theorem ins_sorted {l : List Ky} {r : Ky} {p : Nat} (hl : SrtK l) (hp : p ≤ l.length) (h1 : ∀ x, (p = 0 ∨ l[p - 1]? = some x) → 0 < p → ¬ r.lt x) (h2 : ∀ j x, p ≤ j → l[j]? = some x → r.lt x) : SrtK (l.take p ++ [r] ++ l.drop p) := by
  rw [List.append_assoc]
  refine List.pairwise_append.mpr ⟨hl.sublist (List.take_sublist _ _), ?_, ?_⟩
  · rw [List.singleton_append]
    refine List.pairwise_cons.mpr ⟨fun x hx => ?_, hl.sublist (List.drop_sublist _ _)⟩
    obtain ⟨j, hj⟩ := List.getElem?_of_mem hx
    rw [List.getElem?_drop] at hj
    exact Ky.asymm (h2 (p + j) x (by omega) hj)
  · intro a ha b hb
    obtain ⟨i, hi⟩ := List.getElem?_of_mem ha
    have hip : i < p := by
      have := (List.getElem?_eq_some_iff.mp hi).1
      rw [List.length_take] at this
      omega
    rw [List.getElem?_take_of_lt hip] at hi
    rcases List.mem_append.mp (show b ∈ [r] ++ l.drop p from hb) with hb | hb
    · rw [List.mem_singleton.mp hb]
      have hlast : l[p - 1]? = some (l[p - 1]'(by omega)) := List.getElem?_eq_getElem _
      have hr := h1 _ (.inr hlast) (by omega)
      by_cases e : i = p - 1
      · subst e
        rw [hi] at hlast
        cases hlast
        exact hr
      · obtain ⟨hi1, hi2⟩ := List.getElem?_eq_some_iff.mp hi
        have := List.pairwise_iff_getElem.mp hl i (p - 1) hi1 (by omega) (by omega)
        rw [hi2] at this
        exact Ky.le_trans this hr
    · obtain ⟨j, hj⟩ := List.getElem?_of_mem hb
      rw [List.getElem?_drop] at hj
      obtain ⟨hi1, hi2⟩ := List.getElem?_eq_some_iff.mp hi
      obtain ⟨hj1, hj2⟩ := List.getElem?_eq_some_iff.mp hj
      have := List.pairwise_iff_getElem.mp hl i (p + j) hi1 hj1 (by omega)
      rw [hi2, hj2] at this
      exact this
theorem ins_perm (l : List Ky) (r : Ky) (p : Nat) : (l.take p ++ [r] ++ l.drop p).Perm (r :: l) := by
  have h : (l.take p ++ [r] ++ l.drop p).Perm (r :: (l.take p ++ l.drop p)) := by
    rw [List.append_assoc]
    exact List.perm_middle
  rwa [List.take_append_drop] at h
end Mt

namespace Mt
open PySem PySem.Spec PyProof.Rows L2 TD Dn
theorem cut_drop {α : Type} (xs : List α) {p : Nat} (h : p ≤ xs.length) : TD.cutD xs (some (p : Int)) none = xs.drop p := by
  unfold TD.cutD
  rw [HT.sIx_none, HT.sIx_nat, Nat.min_eq_left h]
  exact List.take_of_length_le (by rw [List.length_drop]; exact Nat.le_refl _)
def BdK (l : List Ky) : Prop := ∀ k ∈ l, Bd 100 k.q
noncomputable def WC : EnvS → R Bool := (andB (asF (bin2 gtD (varD 3) (cD (.int 0)))) (asF (callU 2 v__is_ahead (consA (varD 2) (consA (bin2 ixD (varD 1) (bin2 subD (varD 3) (cD (.int 1)))) nilA)))))
theorem place_loop {R0 : Option Sl} {l : List Ky} {r : Ky} (hl : BdK l) (hr : Bd 100 r.q) : ∀ p0 : Nat, p0 ≤ l.length → ∃ (p n : Nat), p ≤ p0 ∧ (∀ x, 0 < p → l[p - 1]? = some x → ¬ r.lt x) ∧ (∀ j x, p ≤ j → j < p0 → l[j]? = some x → r.lt x) ∧
    whO WC (augO 3 subD (cD (.int 1))) n [R0, some (.pu (.list (l.map rowD))), some (.pu (rowD r)), some (.pu (.int (p0 : Nat)))] = .nx [R0, some (.pu (.list (l.map rowD))), some (.pu (rowD r)), some (.pu (.int (p : Nat)))] := by
  intro p0
  induction p0 with
  | zero =>
    intro _
    refine ⟨0, 1, Nat.le_refl _, fun x h => absurd h (by omega), fun j x _ h => absurd h (by omega), ?_⟩
    rw [whO, show WC [R0, some (.pu (.list (l.map rowD))), some (.pu (rowD r)), some (.pu (.int (0 : Nat)))] = .ok false from rfl, R.ok_out, if_neg (by decide)]
  | succ p0 ih =>
    intro hp
    have hx : l[p0]? = some (l[p0]'(by omega)) := List.getElem?_eq_getElem _
    generalize hxx : l[p0]'(by omega) = x at hx
    have hb : Bd 100 x.q := hl x (by rw [← hxx]; exact List.getElem_mem _)
    have hix : ixD (.list (l.map rowD)) (.int (p0 : Nat)) = .ok (rowD x) := ixD_list_nat (by rw [List.getElem?_map, hx]; rfl)
    have hpos : decide ((0 : Int) < ((p0 + 1 : Nat) : Int)) = true := decide_eq_true (by omega)
    have hsub : ((p0 + 1 : Nat) : Int) - 1 = (p0 : Nat) := by omega
    have hc : WC [R0, some (.pu (.list (l.map rowD))), some (.pu (rowD r)), some (.pu (.int ((p0 + 1 : Nat) : Int)))] = .ok (ltK r x) := by
      unfold WC
      simp only [andB_ap, asF_ap, bin2_ap, varD_succ, varD_zero, cD_ap, k2_ok, gtD_int, hpos, asB_ok, andK_t, callU_ap, consA_ap, subD_int, hsub, hix, nilA_ap, cnK_ok, cuK_2, ahead_eq hr hb]
    by_cases h : r.lt x
    · obtain ⟨p, n, h1, h2, h3, e⟩ := ih (by omega)
      refine ⟨p, n + 1, by omega, h2, fun j y hj1 hj2 hy => ?_, ?_⟩
      · by_cases e : j = p0
        · subst e; rw [hx] at hy; cases hy; exact h
        · exact h3 j y hj1 (by omega) hy
      · rw [whO, hc, R.ok_out, if_pos (show ltK r x = true from decide_eq_true h)]
        have ea : augO 3 subD (cD (.int 1)) [R0, some (.pu (.list (l.map rowD))), some (.pu (rowD r)), some (.pu (.int ((p0 + 1 : Nat) : Int)))] = .nx [R0, some (.pu (.list (l.map rowD))), some (.pu (rowD r)), some (.pu (.int (p0 : Nat)))] := by
          rw [← hsub]; rfl
        rw [ea]
        exact e
    · refine ⟨p0 + 1, 1, Nat.le_refl _, fun y _ hy => ?_, fun j y h1 h2 => absurd h2 (by omega), ?_⟩
      · rw [Nat.add_sub_cancel, hx] at hy; cases hy; exact h
      · rw [whO, hc, R.ok_out, if_neg (by rw [show ltK r x = false from decide_eq_false h]; decide)]
noncomputable def BO : EnvS → Out := (sqO (stO 3 (callF lenK (consA (varD 1) nilA)))
  (sqO (whX WC (augO 3 subD (cD (.int 1))))
  (stO 1 (lstF (catL (catL (asLF (slcG (varD 1) noP (someP (varD 3)))) (newD (consA (varD 2) nilA))) (asLF (slcG (varD 1) (someP (varD 3)) noP)))))))
theorem ins_step {R0 z3 : Option Sl} {l : List Ky} {r : Ky} (hl : BdK l) (hr : Bd 100 r.q) (hs : SrtK l) (hlen : l.length ≤ 1000) :
    ∃ (l' : List Ky) (w3 : Option Sl), l'.Perm (r :: l) ∧ SrtK l' ∧ BO [R0, some (.pu (.list (l.map rowD))), some (.pu (rowD r)), z3] = .nx [R0, some (.pu (.list (l'.map rowD))), some (.pu (rowD r)), w3] := by
  obtain ⟨p, n, h1, h2, h3, e⟩ := place_loop (R0 := R0) hl hr l.length (Nat.le_refl _)
  refine ⟨l.take p ++ [r] ++ l.drop p, some (.pu (.int (p : Nat))), ins_perm l r p, ins_sorted hs h1 (fun x hx h0 => ?_) (fun j x hj hx => h3 j x hj (List.getElem?_eq_some_iff.mp hx).1 hx), ?_⟩
  · rcases hx with hx | hx
    · omega
    · exact h2 x h0 hx
  unfold BO
  refine (sq_nx (ρ1 := [R0, some (.pu (.list (l.map rowD))), some (.pu (rowD r)), some (.pu (.int (l.length : Nat)))]) ?_).trans ?_
  · refine (st_nx (d := .int (l.length : Nat)) ?_).trans rfl
    simp only [callF_ap, consA_ap, varD_succ, varD_zero, nilA_ap, cnK_ok, R.ok_bind, lenK_list, List.length_map]
  refine (sq_nx (whX_eq n e (by intro h; cases h))).trans ?_
  refine (st_nx (d := .list ((l.take p ++ [r] ++ l.drop p).map rowD)) ?_).trans rfl
  have hp2 : p ≤ (l.map rowD).length := by rw [List.length_map]; exact h1
  have k1 : caK (.ok ((l.map rowD).take p)) (.ok [rowD r]) = .ok ((l.map rowD).take p ++ [rowD r]) := if_pos (by unfold lineOk; refine decide_eq_true ?_; rw [List.length_take, List.length_map, List.length_singleton]; omega)
  have k2' : caK (.ok ((l.map rowD).take p ++ [rowD r])) (.ok ((l.map rowD).drop p)) = .ok ((l.map rowD).take p ++ [rowD r] ++ (l.map rowD).drop p) := if_pos (by unfold lineOk; refine decide_eq_true ?_; rw [List.length_append, List.length_take, List.length_map, List.length_singleton, List.length_drop, List.length_map]; omega)
  simp only [lstF_ap, catL_ap, asLF_ap, slcG_ap, varD_succ, varD_zero, noP_ap, someP_ap, smK_ok, slK_l, alK_ok, cut_take, cut_drop _ hp2, newD_ap, consA_ap, nilA_ap, cnK_ok]
  rw [show nwK (.ok [rowD r]) = .ok [rowD r] from rfl, k1, k2', lsK_ok, List.map_append, List.map_append, List.map_take, List.map_drop]
  rfl
theorem ord_loop {R0 : Option Sl} : ∀ (ks l : List Ky) (z2 z3 : Option Sl), BdK ks → BdK l → SrtK l → l.length + ks.length ≤ 1000 →
    ∃ (l' : List Ky) (w2 w3 : Option Sl), l'.Perm (ks ++ l) ∧ SrtK l' ∧ forO (nmG 2) BO (ks.map rowD) [R0, some (.pu (.list (l.map rowD))), z2, z3] = .nx [R0, some (.pu (.list (l'.map rowD))), w2, w3] := by
  intro ks
  induction ks with
  | nil => exact fun l z2 z3 _ _ hs _ => ⟨l, z2, z3, List.Perm.refl _, hs, rfl⟩
  | cons k ks ih =>
    intro l z2 z3 hk hl hs hlen
    rw [List.length_cons] at hlen
    obtain ⟨l1, w3, hp, hs1, e⟩ := ins_step (R0 := R0) (z3 := z3) hl (hk k List.mem_cons_self) hs (by omega)
    have hl1 : BdK l1 := fun x hx => by
      rcases List.mem_cons.mp (hp.mem_iff.mp hx) with h | h
      · rw [h]; exact hk k List.mem_cons_self
      · exact hl x h
    obtain ⟨l2, v2, v3, hp2, hs2, e2⟩ := ih l1 (some (.pu (rowD k))) w3 (fun x hx => hk x (List.mem_cons_of_mem _ hx)) hl1 hs1 (by rw [hp.length_eq, List.length_cons]; omega)
    refine ⟨l2, v2, v3, hp2.trans ((List.Perm.append_left ks hp).trans List.perm_middle), hs2, ?_⟩
    rw [List.map_cons, forO_cons (ρ1 := [R0, some (.pu (.list (l.map rowD))), some (.pu (rowD k)), z3]) rfl e]
    exact e2
theorem in_order_eq {ks : List Ky} (hk : BdK ks) (hl : ks.length ≤ 1000) : ∃ l : List Ky, l.Perm ks ∧ SrtK l ∧ v_in_order [.list (ks.map rowD)] = .ok (.list (l.map rowD)) := by
  obtain ⟨l, w2, w3, hp, hs, e⟩ := ord_loop (R0 := some (.pu (.list (ks.map rowD)))) ks [] none none hk (fun x h => absurd h List.not_mem_nil) List.Pairwise.nil (by rw [List.length_nil]; omega)
  rw [List.append_nil] at hp
  refine ⟨l, hp, hs, ?_⟩
  unfold v_in_order
  rw [fnR_ap, show argS 4 [.list (ks.map rowD)] = [some (.pu (.list (ks.map rowD))), none, none, none] from rfl]
  unfold b_in_order
  refine (congrArg fnK (sq_nx (ρ1 := [some (.pu (.list (ks.map rowD))), some (.pu (.list [])), none, none]) rfl)).trans ?_
  refine (congrArg fnK (sq_nx (ρ1 := [some (.pu (.list (ks.map rowD))), some (.pu (.list (l.map rowD))), w2, w3]) ?_)).trans ?_
  · rw [loO_ap, seqF_ap, varD_zero, sqK_l, loK_ok]
    exact e
  · rfl
end Mt

namespace Mt
open PySem PySem.Spec PyProof.Rows L2 TD Dn
def keysFrom : Nat → List Bx → List Ky
  | _, [] => []
  | n, b :: bs => ⟨b.xl, 0, n⟩ :: ⟨b.xh, 1, n⟩ :: keysFrom (n + 1) bs
theorem keys_mem : ∀ (bs : List Bx) (n : Nat) (k : Ky), k ∈ keysFrom n bs ↔ ∃ (j : Nat) (b : Bx), bs[j]? = some b ∧ (k = ⟨b.xl, 0, n + j⟩ ∨ k = ⟨b.xh, 1, n + j⟩) := by
  intro bs
  induction bs with
  | nil => intro n k; simp [keysFrom]
  | cons b bs ih =>
    intro n k
    rw [keysFrom, List.mem_cons, List.mem_cons, ih]
    constructor
    · rintro (h | h | ⟨j, c, h1, h2⟩)
      · exact ⟨0, b, rfl, .inl h⟩
      · exact ⟨0, b, rfl, .inr h⟩
      · refine ⟨j + 1, c, by simpa using h1, ?_⟩
        rw [show n + (j + 1) = n + 1 + j by omega]
        exact h2
    · rintro ⟨j, c, h1, h2⟩
      cases j with
      | zero =>
        cases (show some b = some c by simpa using h1)
        rcases h2 with h2 | h2
        · exact .inl h2
        · exact .inr (.inl h2)
      | succ j =>
        refine .inr (.inr ⟨j, c, by simpa using h1, ?_⟩)
        rw [show n + 1 + j = n + (j + 1) by omega]
        exact h2
theorem keys_nodup : ∀ (bs : List Bx) (n : Nat), (keysFrom n bs).Nodup := by
  intro bs
  induction bs with
  | nil => intro n; exact List.nodup_nil
  | cons b bs ih =>
    intro n
    have hno : ∀ k ∈ keysFrom (n + 1) bs, n < k.i := fun k hk => by
      obtain ⟨j, c, _, h⟩ := (keys_mem bs (n + 1) k).mp hk
      rcases h with rfl | rfl <;> (show n < n + 1 + j; omega)
    rw [keysFrom, List.nodup_cons, List.nodup_cons]
    refine ⟨fun h => ?_, fun h => ?_, ih (n + 1)⟩
    · rcases List.mem_cons.mp h with h | h
      · injection h with _ h _; omega
      · have := hno _ h; exact Nat.lt_irrefl _ this
    · have := hno _ h; exact Nat.lt_irrefl _ this
theorem keys_len : ∀ (bs : List Bx) (n : Nat), (keysFrom n bs).length = 2 * bs.length := by
  intro bs
  induction bs with
  | nil => intro n; rfl
  | cons b bs ih => intro n; rw [keysFrom, List.length_cons, List.length_cons, ih, List.length_cons]; omega
theorem keys_bd {bs : List Bx} (h : ∀ b ∈ bs, b.Ok) (n : Nat) : BdK (keysFrom n bs) := fun k hk => by
  obtain ⟨j, c, h1, h2⟩ := (keys_mem bs n k).mp hk
  have hc := h c (List.mem_of_getElem? h1)
  rcases h2 with rfl | rfl
  · exact hc.bxl
  · exact hc.bxh
theorem keys_w {bs : List Bx} {n : Nat} {k : Ky} (hk : k ∈ keysFrom n bs) : k.w = 0 ∨ k.w = 1 := by
  obtain ⟨j, c, h1, h2⟩ := (keys_mem bs n k).mp hk
  rcases h2 with rfl | rfl
  · exact .inl rfl
  · exact .inr rfl
def evS (w : Nat) : Str := if w = 0 then "in" else "out"
def evD (k : Ky) : D := .tuple [.str (evS k.w), .int (k.i : Nat)]
noncomputable def BR : EnvS → Out := (sqO (appO 1 (tupD (consA (bin2 ixD (bin2 ixD (varD 3) (cD (.int 0))) (cD (.int 0))) (consA (tupD (consA (cD (.int 0)) (consA (varD 2) nilA))) nilA))))
  (appO 1 (tupD (consA (bin2 ixD (bin2 ixD (varD 3) (cD (.int 0))) (cD (.int 1))) (consA (tupD (consA (cD (.int 1)) (consA (varD 2) nilA))) nilA)))))
theorem rows_loop {B z4 z5 : Option Sl} : ∀ (bs : List Bx) (n : Nat) (ks : List Ky) (z2 z3 : Option Sl), ks.length + 2 * bs.length ≤ 1000 →
    ∃ w2 w3 : Option Sl, forO (tupG 2 (consG (nmG 2) (consG (nmG 3) nilG))) BR (enumFrom n (bs.map bxD)) [B, some (.ow (ks.map rowD)), z2, z3, z4, z5] = .nx [B, some (.ow ((ks ++ keysFrom n bs).map rowD)), w2, w3, z4, z5] := by
  intro bs
  induction bs with
  | nil => intro n ks z2 z3 _; exact ⟨z2, z3, by rw [keysFrom, List.append_nil]; rfl⟩
  | cons b bs ih =>
    intro n ks z2 z3 hl
    rw [List.length_cons] at hl
    obtain ⟨w2, w3, e⟩ := ih (n + 1) (ks ++ [⟨b.xl, 0, n⟩, ⟨b.xh, 1, n⟩]) (some (.pu (.int (n : Nat)))) (some (.pu (bxD b))) (by rw [List.length_append]; show ks.length + 2 + _ ≤ _; omega)
    refine ⟨w2, w3, ?_⟩
    rw [List.map_cons, enumFrom, forO_cons (ρ1 := [B, some (.ow (ks.map rowD)), some (.pu (.int (n : Nat))), some (.pu (bxD b)), z4, z5]) (ρ2 := [B, some (.ow ((ks ++ [(⟨b.xl, 0, n⟩ : Ky), (⟨b.xh, 1, n⟩ : Ky)]).map rowD)), some (.pu (.int (n : Nat))), some (.pu (bxD b)), z4, z5]) rfl]
    · rw [e, keysFrom, List.append_assoc]; rfl
    · unfold BR
      refine (sq_nx (ρ1 := [B, some (.ow (ks.map rowD ++ [rowD ⟨b.xl, 0, n⟩])), some (.pu (.int (n : Nat))), some (.pu (bxD b)), z4, z5]) ?_).trans ?_
      · rw [appO_ap]
        show appK 1 (some (some (.ow (ks.map rowD)))) (.ok (rowD ⟨b.xl, 0, n⟩)) _ = _
        rw [appK_ok (by unfold lineOk; rw [List.length_map]; exact decide_eq_true (by omega))]
        rfl
      · rw [appO_ap]
        show appK 1 (some (some (.ow (ks.map rowD ++ [rowD ⟨b.xl, 0, n⟩])))) (.ok (rowD ⟨b.xh, 1, n⟩)) _ = _
        rw [appK_ok (by unfold lineOk; rw [List.length_append, List.length_map, List.length_singleton]; exact decide_eq_true (by omega)), List.map_append, List.append_assoc]
        rfl
theorem swept_eq {bs : List Bx} (h : ∀ b ∈ bs, b.Ok) (hl : bs.length ≤ 60) : ∃ l : List Ky, l.Perm (keysFrom 0 bs) ∧ SrtK l ∧ v_swept_by [.tuple (bs.map bxD)] = .ok (.list (l.map evD)) := by
  obtain ⟨w2, w3, e⟩ := rows_loop (B := some (.pu (.tuple (bs.map bxD)))) (z4 := none) (z5 := none) bs 0 [] none none (by rw [List.length_nil]; omega)
  obtain ⟨l, hp, hs, e2⟩ := in_order_eq (keys_bd h 0) (by rw [keys_len]; omega)
  refine ⟨l, hp, hs, ?_⟩
  unfold v_swept_by
  rw [fnR_ap, show argS 6 [.tuple (bs.map bxD)] = [some (.pu (.tuple (bs.map bxD))), none, none, none, none, none] from rfl]
  unfold b_swept_by
  refine (congrArg fnK (sq_nx (ρ1 := [some (.pu (.tuple (bs.map bxD))), some (.ow []), none, none, none, none]) rfl)).trans ?_
  refine (congrArg fnK (sq_nx (ρ1 := [some (.pu (.tuple (bs.map bxD))), some (.ow ((keysFrom 0 bs).map rowD)), w2, w3, none, none]) ?_)).trans ?_
  · rw [loO_ap, show enuA (varD 0) [some (.pu (.tuple (bs.map bxD))), some (.ow []), none, none, none, none] = .ok (enumFrom 0 (bs.map bxD)) from rfl, loK_ok]
    exact e
  · have el : lcF (seqF (callU 1 v_in_order (consA (varD 1) nilA))) (tupG 2 (consG (nmG 4) (consG (tupG 2 (consG (nmG 5) (consG (nmG 2) nilG))) nilG))) yesB (tupD (consA (bin2 ixD (tupD (consA (cD (.str "in")) (consA (cD (.str "out")) nilA))) (varD 5)) (consA (varD 2) nilA))) [4, 5, 2]
        (toF [some (.pu (.tuple (bs.map bxD))), some (.ow ((keysFrom 0 bs).map rowD)), w2, w3, none, none]) = .ok (l.map evD) := by
      rw [lcF_ap, seqF_ap, callU_ap]
      show lcK (sqK (cuK 1 v_in_order (.ok [.list ((keysFrom 0 bs).map rowD)]))) _ _ _ _ _ = _
      rw [cuK_1, e2, sqK_l, lcK_ok (by unfold lineOk; rw [List.length_map, hp.length_eq, keys_len]; exact decide_eq_true (by omega))]
      have go : ∀ (m : List Ky), (∀ k ∈ m, k.w = 0 ∨ k.w = 1) → ∀ ρ : EnvS, ρ.length = 6 → compO (tupG 2 (consG (nmG 4) (consG (tupG 2 (consG (nmG 5) (consG (nmG 2) nilG))) nilG))) yesB (tupD (consA (bin2 ixD (tupD (consA (cD (.str "in")) (consA (cD (.str "out")) nilA))) (varD 5)) (consA (varD 2) nilA))) (m.map rowD) ρ = .ok (m.map evD) := by
        intro m
        induction m with
        | nil => intro _ ρ _; rfl
        | cons k m ih =>
          intro hw ρ hρ
          obtain ⟨a0, a1, a2, a3, a4, a5, rfl⟩ : ∃ a0 a1 a2 a3 a4 a5, ρ = [a0, a1, a2, a3, a4, a5] := by
            rcases ρ with _ | ⟨a, _ | ⟨b, _ | ⟨c, _ | ⟨d, _ | ⟨e, _ | ⟨f, _ | ⟨g, r⟩⟩⟩⟩⟩⟩⟩ <;> first | (simp at hρ; done) | exact ⟨_, _, _, _, _, _, rfl⟩
          rw [List.map_cons, List.map_cons]
          refine compO_cons (ρ1 := [a0, a1, some (.pu (.int (k.i : Nat))), a3, some (.pu (N k.q)), some (.pu (.int (k.w : Nat)))]) rfl ?_ (ih (fun x hx => hw x (List.mem_cons_of_mem _ hx)) _ rfl)
          rcases hw k List.mem_cons_self with h0 | h0
          · rw [h0, evD, h0]; rfl
          · rw [h0, evD, h0]; rfl
      refine go l (fun k hk => keys_w (hp.mem_iff.mp hk)) _ ?_
      rfl
    show fnK (match lstF (lcF _ _ _ _ _) (toF [some (.pu (.tuple (bs.map bxD))), some (.ow ((keysFrom 0 bs).map rowD)), w2, w3, none, none]) with
      | .ok d => .rt d
      | _ => .no) = _
    rw [lstF_ap, el, lsK_ok]
    rfl
end Mt

namespace Mt
open PySem PySem.Spec PyProof.Rows L2 TD Dn
theorem er_map {α β : Type} (f : α → β) : ∀ (l : List α) (j : Nat), (l.map f).eraseIdx j = (l.eraseIdx j).map f
  | [], _ => rfl
  | _ :: _, 0 => rfl
  | a :: l, j + 1 => by
    show f a :: (l.map f).eraseIdx j = f a :: (l.eraseIdx j).map f
    rw [er_map f l j]
theorem er_perm {α : Type} : ∀ (l : List α) (j : Nat) (a : α), l[j]? = some a → (a :: l.eraseIdx j).Perm l
  | [], _, _, h => by simp at h
  | x :: l, 0, a, h => by
    have e : x = a := by simpa using h
    rw [e]
    exact List.Perm.refl _
  | x :: l, j + 1, a, h => by
    have h' : l[j]? = some a := by simpa using h
    show (a :: x :: l.eraseIdx j).Perm (x :: l)
    exact (List.Perm.swap x a _).trans (List.Perm.cons x (er_perm l j a h'))
end Mt

namespace Mt
open PySem PySem.Spec PyProof.Rows L2 TD Dn
/-! ### sweep_pairs: what it computes -/
def ymAt (bs : List Bx) (i j : Nat) : Bool := match bs[i]?, bs[j]? with
  | some a, some b => ym a b
  | _, _ => false
def pr (i j : Nat) : Int × Int := if i < j then ((i : Int), (j : Int)) else ((j : Int), (i : Int))
def stepE (bs : List Bx) (st : List (Int × Int) × List Nat) (k : Ky) : List (Int × Int) × List Nat :=
  if k.w = 1 then (st.1, st.2.erase k.i) else (st.1 ++ (st.2.filter fun o => ymAt bs k.i o).map (pr k.i), st.2 ++ [k.i])
def iD (n : Nat) : D := .int (n : Nat)
noncomputable def BP : EnvS → Out := (ifO (asF (callU 2 v_spans_meet (consA (bin2 ixD (bin2 ixD (varD 0) (varD 4)) (cD (.int 1))) (consA (bin2 ixD (bin2 ixD (varD 0) (varD 5)) (cD (.int 1))) nilA))))
  (appO 1 (tupD (consA (callF min2K (consA (varD 4) (consA (varD 5) nilA))) (consA (callF max2K (consA (varD 4) (consA (varD 5) nilA))) nilA))))
  nxO)
theorem minmax (i j : Nat) (h : i ≠ j) : tuK (cnK ((R.ok [iD i, iD j]).bind min2K) (cnK ((R.ok [iD i, iD j]).bind max2K) (.ok []))) = .ok (prD2 (pr i j)) := by
  rw [R.ok_bind, R.ok_bind]
  show tuK (cnK (.ok (.int (if (j : Int) < i then j else i))) (cnK (.ok (.int (if (j : Int) > i then j else i))) (.ok []))) = _
  rw [cnK_ok, cnK_ok, tuK_2]
  unfold pr prD2
  by_cases h1 : i < j
  · rw [if_neg (show ¬ (j : Int) < i by omega), if_pos (show (j : Int) > i by omega), if_pos h1]
  · rw [if_pos (show (j : Int) < i by omega), if_neg (show ¬ (j : Int) > i by omega), if_neg h1]
theorem pair_loop {bs : List Bx} (h : ∀ b ∈ bs, b.Ok) {i : Nat} (hi : i < bs.length) {O z3 : Option Sl} : ∀ (os : List Nat) (F : List (Int × Int)) (z5 : Option Sl), (∀ o ∈ os, o < bs.length ∧ i ≠ o) → F.length + os.length ≤ 100000 →
    ∃ w5 : Option Sl, forO (nmG 5) BP (os.map iD) [some (.pu (.tuple (bs.map bxD))), some (.ow (F.map prD2)), O, z3, some (.pu (iD i)), z5] = .nx [some (.pu (.tuple (bs.map bxD))), some (.ow ((F ++ (os.filter fun o => ymAt bs i o).map (pr i)).map prD2)), O, z3, some (.pu (iD i)), w5] := by
  intro os
  induction os with
  | nil => intro F z5 _ _; exact ⟨z5, by rw [List.filter_nil, List.map_nil, List.map_nil, List.append_nil]; rfl⟩
  | cons o os ih =>
    intro F z5 ho hl
    rw [List.length_cons] at hl
    obtain ⟨ho1, ho2⟩ := ho o List.mem_cons_self
    have ai : bs[i]? = some (bs[i]) := List.getElem?_eq_getElem hi
    have ao : bs[o]? = some (bs[o]) := List.getElem?_eq_getElem ho1
    have oki := h _ (List.getElem_mem hi)
    have oko := h _ (List.getElem_mem ho1)
    have xi : ixD (.tuple (bs.map bxD)) (iD i) = .ok (bxD bs[i]) := ixD_tuple_nat (by rw [List.getElem?_map, ai]; rfl)
    have xo : ixD (.tuple (bs.map bxD)) (iD o) = .ok (bxD bs[o]) := ixD_tuple_nat (by rw [List.getElem?_map, ao]; rfl)
    have hy : ymAt bs i o = ym bs[i] bs[o] := by unfold ymAt; rw [ai, ao]
    have ht : asF (callU 2 v_spans_meet (consA (bin2 ixD (bin2 ixD (varD 0) (varD 4)) (cD (.int 1))) (consA (bin2 ixD (bin2 ixD (varD 0) (varD 5)) (cD (.int 1))) nilA))) [some (.pu (.tuple (bs.map bxD))), some (.ow (F.map prD2)), O, z3, some (.pu (iD i)), some (.pu (iD o))] = .ok (ymAt bs i o) := by
      rw [hy]
      simp only [asF_ap, callU_ap, consA_ap, bin2_ap, varD_succ, varD_zero, cD_ap, k2_ok, xi, xo, ixB1, nilA_ap, cnK_ok, cuK_2, spans_meet_eq oki.byl oki.byh oko.byl oko.byh, asB_ok]
      rfl
    cases hc : ymAt bs i o with
    | true =>
      obtain ⟨w5, e⟩ := ih (F ++ [pr i o]) (some (.pu (iD o))) (fun p hp => ho p (List.mem_cons_of_mem _ hp)) (by rw [List.length_append, List.length_singleton]; omega)
      refine ⟨w5, ?_⟩
      rw [List.map_cons, forO_cons (ρ1 := [some (.pu (.tuple (bs.map bxD))), some (.ow (F.map prD2)), O, z3, some (.pu (iD i)), some (.pu (iD o))]) (ρ2 := [some (.pu (.tuple (bs.map bxD))), some (.ow ((F ++ [pr i o]).map prD2)), O, z3, some (.pu (iD i)), some (.pu (iD o))]) rfl]
      · rw [e, List.filter_cons_of_pos (by rw [hc]), List.map_cons, List.append_assoc]; rfl
      · unfold BP
        rw [ifO_ap, ht, hc, ifK_t, appO_ap]
        have ev : tupD (consA (callF min2K (consA (varD 4) (consA (varD 5) nilA))) (consA (callF max2K (consA (varD 4) (consA (varD 5) nilA))) nilA)) [some (.pu (.tuple (bs.map bxD))), some (.ow (F.map prD2)), O, z3, some (.pu (iD i)), some (.pu (iD o))] = .ok (prD2 (pr i o)) := by
          simp only [tupD_ap, consA_ap, callF_ap, varD_succ, varD_zero, nilA_ap, cnK_ok]
          exact minmax i o ho2
        rw [ev]
        show appK 1 (some (some (.ow (F.map prD2)))) (.ok (prD2 (pr i o))) _ = _
        rw [appK_ok (by unfold lineOk; rw [List.length_map]; exact decide_eq_true (by omega)), List.map_append]
        rfl
    | false =>
      obtain ⟨w5, e⟩ := ih F (some (.pu (iD o))) (fun p hp => ho p (List.mem_cons_of_mem _ hp)) (by omega)
      refine ⟨w5, ?_⟩
      rw [List.map_cons, forO_cons (ρ1 := [some (.pu (.tuple (bs.map bxD))), some (.ow (F.map prD2)), O, z3, some (.pu (iD i)), some (.pu (iD o))]) (ρ2 := [some (.pu (.tuple (bs.map bxD))), some (.ow (F.map prD2)), O, z3, some (.pu (iD i)), some (.pu (iD o))]) rfl]
      · rw [e, List.filter_cons_of_neg (by rw [hc]; decide)]
      · unfold BP
        rw [ifO_ap, ht, hc, ifK_f, nxO_ap]
theorem forO_cont {h : D → EnvS → R EnvS} {gb : EnvS → Out} {d : D} {ds : List D} {ρ ρ1 ρ2 : EnvS} (e1 : h d ρ = .ok ρ1) (e2 : gb ρ1 = .ct ρ2) : forO h gb (d :: ds) ρ = forO h gb ds ρ2 := by
  rw [forO, e1]
  dsimp only
  rw [e2]
theorem ints_lay (l : List Nat) : PyData.canLayAll0 (l.map iD) = true ∧ PyData.depthAll (l.map iD) ≤ 0 := by
  induction l with
  | nil => exact ⟨by rw [List.map_nil, PyData.canLayAll0], by rw [List.map_nil, PyData.depthAll]; omega⟩
  | cons q l ih =>
    have hc : PyData.canLay0 (iD q) = true := rfl
    have hd : PyData.depth (iD q) = 0 := rfl
    refine ⟨by rw [List.map_cons, PyData.canLayAll0, hc, ih.1]; rfl, by rw [List.map_cons, PyData.depthAll, hd]; omega⟩
theorem ok_ints (l : List Nat) : okD (.list (l.map iD)) = true := by
  have h := ints_lay l
  show (PyData.canLay0 (.list (l.map iD)) && decide (PyData.depth (.list (l.map iD)) ≤ 64)) = true
  rw [PyData.canLay0, PyData.depth, h.1, decide_eq_true (by omega)]
  rfl
theorem first_int : ∀ {l : List Nat} {m : Nat}, m ∈ l → ∃ j, firstEq (l.map iD) (iD m) = some j ∧ l.eraseIdx j = l.erase m
  | [], m, h => absurd h List.not_mem_nil
  | x :: l, m, h => by
    by_cases e : x = m
    · subst e
      refine ⟨0, ?_, by rw [List.erase_cons_head]; rfl⟩
      unfold firstEq
      rw [List.map_cons, List.findIdx?_cons, show PyData.eqv (iD x) (iD x) = true from eqv_int x x ▸ decide_eq_true rfl]
      rfl
    · have hm : m ∈ l := by
        rcases List.mem_cons.mp h with h | h
        · exact absurd h.symm e
        · exact h
      obtain ⟨j, h1, h2⟩ := first_int hm
      refine ⟨j + 1, ?_, ?_⟩
      · unfold firstEq at h1 ⊢
        rw [List.map_cons, List.findIdx?_cons, show PyData.eqv (iD x) (iD m) = false from eqv_int x m ▸ decide_eq_false (by omega), h1]
        rfl
      · rw [List.erase_cons_tail (by rw [beq_iff_eq]; exact e), ← h2]; rfl
theorem out_eq : eqD (.str (evS 1)) (.str "out") = .ok (.bool true) := by with_unfolding_all rfl
theorem in_eq : eqD (.str (evS 0)) (.str "out") = .ok (.bool false) := by with_unfolding_all rfl
noncomputable def BE : EnvS → Out := (sqO (ifO (asF (bin2 eqD (varD 3) (cD (.str "out"))))
  (sqO (remO 2 (varD 4))
  (fun ρ => .ct ρ))
  nxO)
  (sqO (loO (ownD 2) (nmG 5) BP)
  (appO 2 (varD 4))))
structure CE (bs : List Bx) (st : List (Int × Int) × List Nat) (k : Ky) : Prop where
  w : k.w = 0 ∨ k.w = 1
  out : k.w = 1 → k.i ∈ st.2
  inn : k.w = 0 → k.i < bs.length ∧ ∀ o ∈ st.2, o < bs.length ∧ k.i ≠ o
  len : st.2.length ≤ 1000 ∧ st.1.length ≤ 90000
theorem event_loop {bs : List Bx} (h : ∀ b ∈ bs, b.Ok) : ∀ (l : List Ky) (st : List (Int × Int) × List Nat) (z3 z4 z5 : Option Sl), (∀ P k Q, l = P ++ k :: Q → CE bs (P.foldl (stepE bs) st) k) →
    ∃ w3 w4 w5 : Option Sl, forO (tupG 2 (consG (nmG 3) (consG (nmG 4) nilG))) BE (l.map evD) [some (.pu (.tuple (bs.map bxD))), some (.ow (st.1.map prD2)), some (.ow (st.2.map iD)), z3, z4, z5] = .nx [some (.pu (.tuple (bs.map bxD))), some (.ow ((l.foldl (stepE bs) st).1.map prD2)), some (.ow ((l.foldl (stepE bs) st).2.map iD)), w3, w4, w5] := by
  intro l
  induction l with
  | nil => intro st z3 z4 z5 _; exact ⟨z3, z4, z5, rfl⟩
  | cons k l ih =>
    intro st z3 z4 z5 hc
    have c := hc [] k l rfl
    have c : CE bs st k := c
    have hc' : ∀ P k' Q, l = P ++ k' :: Q → CE bs (P.foldl (stepE bs) (stepE bs st k)) k' := fun P k' Q e => hc (k :: P) k' Q (by rw [e]; rfl)
    rcases c.w with h0 | h1
    · obtain ⟨hi, ho⟩ := c.inn h0
      have hst : stepE bs st k = (st.1 ++ (st.2.filter fun o => ymAt bs k.i o).map (pr k.i), st.2 ++ [k.i]) := if_neg (by omega)
      obtain ⟨w5, e5⟩ := pair_loop h hi (O := some (.ow (st.2.map iD))) (z3 := some (.pu (.str (evS k.w)))) st.2 st.1 z5 ho (by have := c.len; omega)
      obtain ⟨v3, v4, v5, e⟩ := ih (stepE bs st k) (some (.pu (.str (evS k.w)))) (some (.pu (iD k.i))) w5 hc'
      refine ⟨v3, v4, v5, ?_⟩
      rw [List.map_cons, forO_cons (ρ1 := [some (.pu (.tuple (bs.map bxD))), some (.ow (st.1.map prD2)), some (.ow (st.2.map iD)), some (.pu (.str (evS k.w))), some (.pu (iD k.i)), z5]) (ρ2 := [some (.pu (.tuple (bs.map bxD))), some (.ow ((stepE bs st k).1.map prD2)), some (.ow ((stepE bs st k).2.map iD)), some (.pu (.str (evS k.w))), some (.pu (iD k.i)), w5]) rfl]
      · exact e
      · unfold BE
        refine (sq_nx (if_skip (as_f ?_))).trans ?_
        · show k2 eqD (.ok (.str (evS k.w))) (.ok (.str "out")) = _
          rw [k2_ok, h0, in_eq]
        refine (sq_nx (ρ1 := [some (.pu (.tuple (bs.map bxD))), some (.ow ((stepE bs st k).1.map prD2)), some (.ow (st.2.map iD)), some (.pu (.str (evS k.w))), some (.pu (iD k.i)), w5]) ?_).trans ?_
        · rw [loO_ap]
          show loK (.ok (st.2.map iD)) _ _ _ = _
          rw [loK_ok, e5, hst]
        · rw [appO_ap]
          show appK 2 (some (some (.ow (st.2.map iD)))) (.ok (iD k.i)) _ = _
          rw [appK_ok (by unfold lineOk; rw [List.length_map]; exact decide_eq_true (by have := c.len; omega))]
          simp only [hst, List.map_append, List.map_cons, List.map_nil, List.set]
    · have hm := c.out h1
      obtain ⟨j, hj1, hj2⟩ := first_int hm
      have hst : stepE bs st k = (st.1, st.2.erase k.i) := if_pos h1
      obtain ⟨v3, v4, v5, e⟩ := ih (stepE bs st k) (some (.pu (.str (evS k.w)))) (some (.pu (iD k.i))) z5 hc'
      refine ⟨v3, v4, v5, ?_⟩
      rw [List.map_cons, forO_cont (ρ1 := [some (.pu (.tuple (bs.map bxD))), some (.ow (st.1.map prD2)), some (.ow (st.2.map iD)), some (.pu (.str (evS k.w))), some (.pu (iD k.i)), z5]) (ρ2 := [some (.pu (.tuple (bs.map bxD))), some (.ow ((stepE bs st k).1.map prD2)), some (.ow ((stepE bs st k).2.map iD)), some (.pu (.str (evS k.w))), some (.pu (iD k.i)), z5]) rfl]
      · exact e
      · have er : remO 2 (varD 4) [some (.pu (.tuple (bs.map bxD))), some (.ow (st.1.map prD2)), some (.ow (st.2.map iD)), some (.pu (.str (evS k.w))), some (.pu (iD k.i)), z5] = .nx [some (.pu (.tuple (bs.map bxD))), some (.ow (st.1.map prD2)), some (.ow ((st.2.erase k.i).map iD)), some (.pu (.str (evS k.w))), some (.pu (iD k.i)), z5] := by
          unfold remO
          show (R.ok (iD k.i)).out _ _ = _
          rw [R.ok_out, if_pos (by rw [show okD (iD k.i) = true from rfl, ok_ints]; rfl), hj1, ← hj2, ← er_map]
          rfl
        have et : asF (bin2 eqD (varD 3) (cD (.str "out"))) [some (.pu (.tuple (bs.map bxD))), some (.ow (st.1.map prD2)), some (.ow (st.2.map iD)), some (.pu (.str (evS k.w))), some (.pu (iD k.i)), z5] = .ok true := by
          refine as_t ?_
          show k2 eqD (.ok (.str (evS k.w))) (.ok (.str "out")) = _
          rw [k2_ok, h1, out_eq]
        unfold BE
        rw [sqO_ap, ifO_ap, et, ifK_t, sqO_ap, er, Out.nx_seq, Out.ct_seq, hst]
end Mt

namespace Mt
open PySem PySem.Spec PyProof.Rows L2 TD Dn
theorem pr_comm (i j : Nat) : pr i j = pr j i := by
  unfold pr
  by_cases h : i < j
  · rw [if_pos h, if_neg (by omega)]
  · by_cases h2 : j < i
    · rw [if_neg h, if_pos h2]
    · have : i = j := by omega
      subst this; rfl
theorem pr_eq {i j a b : Nat} (h : pr i j = pr a b) : (i = a ∧ j = b) ∨ (i = b ∧ j = a) := by
  unfold pr at h
  by_cases h1 : i < j <;> by_cases h2 : a < b
  · rw [if_pos h1, if_pos h2] at h; injection h with h3 h4; omega
  · rw [if_pos h1, if_neg h2] at h; injection h with h3 h4; omega
  · rw [if_neg h1, if_pos h2] at h; injection h with h3 h4; omega
  · rw [if_neg h1, if_neg h2] at h; injection h with h3 h4; omega
section
variable {bs : List Bx} (h : ∀ b ∈ bs, b.Ok) {l : List Ky} (hp : l.Perm (keysFrom 0 bs)) (hs : SrtK l)
include h hp hs
theorem l_nodup : l.Nodup := hp.nodup_iff.mpr (keys_nodup bs 0)
theorem l_mem {k : Ky} : k ∈ l ↔ ∃ (j : Nat) (b : Bx), bs[j]? = some b ∧ (k = ⟨b.xl, 0, j⟩ ∨ k = ⟨b.xh, 1, j⟩) := by
  rw [hp.mem_iff, keys_mem]
  constructor
  · rintro ⟨j, b, h1, h2⟩; exact ⟨j, b, h1, by rwa [Nat.zero_add] at h2⟩
  · rintro ⟨j, b, h1, h2⟩; exact ⟨j, b, h1, by rwa [Nat.zero_add]⟩
theorem l_uniq {x y : Ky} (hx : x ∈ l) (hy : y ∈ l) (hw : x.w = y.w) (hi : x.i = y.i) : x = y := by
  obtain ⟨j, b, h1, h2⟩ := (l_mem h hp hs).mp hx
  obtain ⟨j', b', h1', h2'⟩ := (l_mem h hp hs).mp hy
  rcases h2 with rfl | rfl <;> rcases h2' with rfl | rfl
  · cases hi; rw [h1] at h1'; cases h1'; rfl
  · cases hw
  · cases hw
  · cases hi; rw [h1] at h1'; cases h1'; rfl
theorem pre_mem {P Q : List Ky} {k x : Ky} (e : l = P ++ k :: Q) : x ∈ P ↔ x ∈ l ∧ x.lt k := by
  have hn := l_nodup h hp hs
  rw [e] at hn hs
  obtain ⟨_, s2, s3⟩ := List.pairwise_append.mp hs
  have n3 := (List.nodup_append.mp hn).2.2
  constructor
  · intro hx
    refine ⟨by rw [e]; exact List.mem_append.mpr (.inl hx), ?_⟩
    have hne : x ≠ k := n3 x hx k List.mem_cons_self
    have h1 := s3 x hx k List.mem_cons_self
    cases Classical.em (x.lt k) with
    | inl h => exact h
    | inr h => exact absurd (Ky.tri h h1) hne
  · rintro ⟨hx, hlt⟩
    rw [e] at hx
    rcases List.mem_append.mp hx with hx | hx
    · exact hx
    · exfalso
      rcases List.mem_cons.mp hx with hx | hx
      · rw [hx] at hlt; exact Ky.asymm hlt hlt
      · exact (List.pairwise_cons.mp s2).1 x hx hlt
/-- o is open just ahead of k -/
def OpenAt (l : List Ky) (k : Ky) (o : Nat) : Prop := (∃ x ∈ l, x.w = 0 ∧ x.i = o ∧ x.lt k) ∧ ¬ ∃ x ∈ l, x.w = 1 ∧ x.i = o ∧ x.lt k
structure InvE (bs : List Bx) (l P : List Ky) (st : List (Int × Int) × List Nat) : Prop where
  op : ∀ o, o ∈ st.2 ↔ (∃ x ∈ P, x.w = 0 ∧ x.i = o) ∧ ¬ ∃ x ∈ P, x.w = 1 ∧ x.i = o
  nd : st.2.Nodup
  fm : ∀ p, p ∈ st.1 ↔ ∃ k ∈ P, k.w = 0 ∧ ∃ o, p = pr k.i o ∧ ymAt bs k.i o = true ∧ OpenAt l k o
  fd : st.1.Nodup
  le : st.2.length ≤ P.length ∧ st.1.length ≤ P.length * 300
theorem open_pre {P Q : List Ky} {k : Ky} (e : l = P ++ k :: Q) {st : List (Int × Int) × List Nat} (I : InvE bs l P st) (o : Nat) : o ∈ st.2 ↔ OpenAt l k o := by
  rw [I.op]
  unfold OpenAt
  constructor
  · rintro ⟨⟨x, hx, h1, h2⟩, hn⟩
    have := (pre_mem h hp hs e).mp hx
    exact ⟨⟨x, this.1, h1, h2, this.2⟩, fun ⟨y, hy, h3, h4, h5⟩ => hn ⟨y, (pre_mem h hp hs e).mpr ⟨hy, h5⟩, h3, h4⟩⟩
  · rintro ⟨⟨x, hx, h1, h2, h3⟩, hn⟩
    refine ⟨⟨x, (pre_mem h hp hs e).mpr ⟨hx, h3⟩, h1, h2⟩, fun ⟨y, hy, h4, h5⟩ => ?_⟩
    have := (pre_mem h hp hs e).mp hy
    exact hn ⟨y, this.1, h4, h5, this.2⟩
theorem open_valid {k : Ky} {o : Nat} (ho : OpenAt l k o) : o < bs.length := by
  obtain ⟨⟨x, hx, h1, h2, h3⟩, _⟩ := ho
  obtain ⟨j, b, h4, h5⟩ := (l_mem h hp hs).mp hx
  have := (List.getElem?_eq_some_iff.mp h4).1
  rcases h5 with rfl | rfl <;> (cases h2; exact this)
theorem open_ne {k : Ky} (hk : k ∈ l) (hw : k.w = 0) {o : Nat} (ho : OpenAt l k o) : k.i ≠ o := fun e => by
  obtain ⟨⟨x, hx, h1, h2, h3⟩, _⟩ := ho
  have := l_uniq h hp hs hx hk (by omega) (by omega)
  rw [this] at h3
  exact Ky.asymm h3 h3
theorem inv_ce {P Q : List Ky} {k : Ky} (e : l = P ++ k :: Q) (hl : bs.length ≤ 60) {st : List (Int × Int) × List Nat} (I : InvE bs l P st) : CE bs st k := by
  have hk : k ∈ l := by rw [e]; exact List.mem_append.mpr (.inr List.mem_cons_self)
  have hlen : P.length < 2 * bs.length + 1 := by
    have := hp.length_eq
    rw [keys_len, e, List.length_append, List.length_cons] at this
    omega
  refine ⟨keys_w (hp.mem_iff.mp hk), fun h1 => ?_, fun h0 => ⟨?_, fun o ho => ?_⟩, ⟨by have := I.le; omega, by have := I.le; omega⟩⟩
  · rw [open_pre h hp hs e I]
    obtain ⟨j, b, h4, h5⟩ := (l_mem h hp hs).mp hk
    have hb := h b (List.mem_of_getElem? h4)
    rcases h5 with rfl | rfl
    · cases h1
    · refine ⟨⟨⟨b.xl, 0, j⟩, (l_mem h hp hs).mpr ⟨j, b, h4, .inl rfl⟩, rfl, rfl, ?_⟩, fun ⟨y, hy, h6, h7, h8⟩ => ?_⟩
      · by_cases e : b.xl = b.xh
        · exact .inr ⟨e, .inl (by show (0:Nat) < 1; omega)⟩
        · exact .inl (Rat.lt_of_le_of_ne hb.x e)
      · have := l_uniq h hp hs hy hk h6 h7
        rw [this] at h8
        exact Ky.asymm h8 h8
  · obtain ⟨j, b, h4, h5⟩ := (l_mem h hp hs).mp hk
    have := (List.getElem?_eq_some_iff.mp h4).1
    rcases h5 with rfl | rfl <;> exact this
  · have ho' := (open_pre h hp hs e I o).mp ho
    exact ⟨open_valid h hp hs ho', open_ne h hp hs hk h0 ho'⟩
theorem inv_step {P Q : List Ky} {k : Ky} (e : l = P ++ k :: Q) (hl : bs.length ≤ 60) {st : List (Int × Int) × List Nat} (I : InvE bs l P st) : InvE bs l (P ++ [k]) (stepE bs st k) := by
  have hk : k ∈ l := by rw [e]; exact List.mem_append.mpr (.inr List.mem_cons_self)
  have hkP : k ∉ P := fun hx => by have := ((pre_mem h hp hs e).mp hx).2; exact Ky.asymm this this
  have hPl : ∀ x ∈ P, x ∈ l := fun x hx => ((pre_mem h hp hs e).mp hx).1
  have c := inv_ce h hp hs e hl I
  have hlen : P.length ≤ 120 := by
    have := hp.length_eq
    rw [keys_len, e, List.length_append, List.length_cons] at this
    omega
  rcases c.w with h0 | h1
  · have hst : stepE bs st k = (st.1 ++ (st.2.filter fun o => ymAt bs k.i o).map (pr k.i), st.2 ++ [k.i]) := if_neg (by omega)
    have hno : k.i ∉ st.2 := fun hx => ((c.inn h0).2 k.i hx).2 rfl
    rw [hst]
    refine ⟨fun o => ?_, ?_, fun p => ?_, ?_, ?_⟩
    · show o ∈ st.2 ++ [k.i] ↔ _
      rw [List.mem_append, I.op, List.mem_singleton]
      constructor
      · rintro (⟨⟨x, hx, h2, h3⟩, hn⟩ | rfl)
        · refine ⟨⟨x, List.mem_append.mpr (.inl hx), h2, h3⟩, fun ⟨y, hy, h4, h5⟩ => ?_⟩
          rcases List.mem_append.mp hy with hy | hy
          · exact hn ⟨y, hy, h4, h5⟩
          · rw [List.mem_singleton.mp hy] at h4; omega
        · refine ⟨⟨k, List.mem_append.mpr (.inr (List.mem_singleton_self _)), h0, rfl⟩, fun ⟨y, hy, h4, h5⟩ => ?_⟩
          rcases List.mem_append.mp hy with hyP | hy
          · obtain ⟨j, b, h6, h7⟩ := (l_mem h hp hs).mp hk
            have hb := h b (List.mem_of_getElem? h6)
            have hlt := ((pre_mem h hp hs e).mp hyP).2
            have hyl := hPl y hyP
            rcases h7 with rfl | rfl
            · have : y = ⟨b.xh, 1, j⟩ := l_uniq h hp hs hyl ((l_mem h hp hs).mpr ⟨j, b, h6, .inr rfl⟩) h4 h5
              rw [this] at hlt
              rcases hlt with q | ⟨q, q2⟩
              · exact absurd hb.x (Rat.not_le.mpr q)
              · rcases q2 with q2 | ⟨q2, _⟩
                · exact absurd q2 (by show ¬ (1:Nat) < 0; omega)
                · exact absurd q2 (by show ¬ (1:Nat) = 0; omega)
            · cases h0
          · rw [List.mem_singleton.mp hy] at h4; omega
      · rintro ⟨⟨x, hx, h2, h3⟩, hn⟩
        rcases List.mem_append.mp hx with hx | hx
        · exact .inl ⟨⟨x, hx, h2, h3⟩, fun ⟨y, hy, h4, h5⟩ => hn ⟨y, List.mem_append.mpr (.inl hy), h4, h5⟩⟩
        · rw [List.mem_singleton.mp hx] at h3; exact .inr h3.symm
    · exact List.nodup_append.mpr ⟨I.nd, List.pairwise_singleton _ _, fun a ha b hb => by rw [List.mem_singleton.mp hb]; exact fun e => hno (e ▸ ha)⟩
    · show p ∈ st.1 ++ _ ↔ _
      rw [List.mem_append, I.fm, List.mem_map]
      constructor
      · rintro (⟨x, hx, h2, r⟩ | ⟨o, ho, rfl⟩)
        · exact ⟨x, List.mem_append.mpr (.inl hx), h2, r⟩
        · rw [List.mem_filter] at ho
          exact ⟨k, List.mem_append.mpr (.inr (List.mem_singleton_self _)), h0, o, rfl, ho.2, (open_pre h hp hs e I o).mp ho.1⟩
      · rintro ⟨x, hx, h2, o, h3, h4, h5⟩
        rcases List.mem_append.mp hx with hx | hx
        · exact .inl ⟨x, hx, h2, o, h3, h4, h5⟩
        · rw [List.mem_singleton.mp hx] at h3 h4 h5
          exact .inr ⟨o, List.mem_filter.mpr ⟨(open_pre h hp hs e I o).mpr h5, h4⟩, h3.symm⟩
    · refine List.nodup_append.mpr ⟨I.fd, ?_, fun a ha b hb => ?_⟩
      · refine List.pairwise_map.mpr ((I.nd.sublist (List.filter_sublist)).imp ?_)
        intro a b hab q
        rcases pr_eq q with ⟨_, q2⟩ | ⟨q1, q2⟩
        · exact hab q2
        · exact hab (by omega)
      · rintro rfl
        obtain ⟨x, hx, h2, o, h3, h4, h5⟩ := (I.fm a).mp ha
        obtain ⟨o', ho', h6⟩ := List.mem_map.mp hb
        rw [h3] at h6
        rcases pr_eq h6 with ⟨q1, q2⟩ | ⟨q1, q2⟩
        · exact hkP (l_uniq h hp hs hk (hPl x hx) (by omega) q1 ▸ hx)
        · obtain ⟨⟨y, hy, h7, h8, h9⟩, _⟩ := h5
          have hyk : y = k := l_uniq h hp hs hy hk (by omega) (by omega)
          rw [hyk] at h9
          have hxk := ((pre_mem h hp hs e).mp hx).2
          exact Ky.asymm h9 hxk
    · show (st.2 ++ [k.i]).length ≤ _ ∧ (st.1 ++ _).length ≤ _
      have h2 : ((st.2.filter fun o => ymAt bs k.i o).map (pr k.i)).length ≤ st.2.length := by
        rw [List.length_map]; exact List.length_filter_le _ _
      have := I.le
      rw [List.length_append, List.length_append, List.length_append, List.length_singleton, List.length_singleton]
      omega
  · have hst : stepE bs st k = (st.1, st.2.erase k.i) := if_pos h1
    rw [hst]
    refine ⟨fun o => ?_, I.nd.erase _, fun p => ?_, I.fd, ?_⟩
    · show o ∈ st.2.erase k.i ↔ _
      rw [I.nd.mem_erase_iff, I.op]
      constructor
      · rintro ⟨hne, ⟨x, hx, h2, h3⟩, hn⟩
        refine ⟨⟨x, List.mem_append.mpr (.inl hx), h2, h3⟩, fun ⟨y, hy, h4, h5⟩ => ?_⟩
        rcases List.mem_append.mp hy with hy | hy
        · exact hn ⟨y, hy, h4, h5⟩
        · rw [List.mem_singleton.mp hy] at h5; exact hne h5.symm
      · rintro ⟨⟨x, hx, h2, h3⟩, hn⟩
        refine ⟨fun q => hn ⟨k, List.mem_append.mpr (.inr (List.mem_singleton_self _)), h1, q.symm⟩, ?_, fun ⟨y, hy, h4, h5⟩ => hn ⟨y, List.mem_append.mpr (.inl hy), h4, h5⟩⟩
        rcases List.mem_append.mp hx with hx | hx
        · exact ⟨x, hx, h2, h3⟩
        · rw [List.mem_singleton.mp hx] at h2; omega
    · rw [I.fm]
      constructor
      · rintro ⟨x, hx, r⟩; exact ⟨x, List.mem_append.mpr (.inl hx), r⟩
      · rintro ⟨x, hx, h2, r⟩
        rcases List.mem_append.mp hx with hx | hx
        · exact ⟨x, hx, h2, r⟩
        · rw [List.mem_singleton.mp hx] at h2; omega
    · have := I.le
      have := List.length_erase_le (a := k.i) (l := st.2)
      rw [List.length_append, List.length_singleton]
      show (st.2.erase k.i).length ≤ _ ∧ st.1.length ≤ _
      omega
end
end Mt

namespace Mt
open PySem PySem.Spec PyProof.Rows L2 TD Dn
section
variable {bs : List Bx} (h : ∀ b ∈ bs, b.Ok) {l : List Ky} (hp : l.Perm (keysFrom 0 bs)) (hs : SrtK l) (hl : bs.length ≤ 60)
include h hp hs hl
theorem run_all : ∀ (R P : List Ky) (st : List (Int × Int) × List Nat), l = P ++ R → InvE bs l P st → (∀ P' k Q, R = P' ++ k :: Q → CE bs (P'.foldl (stepE bs) st) k) ∧ InvE bs l l (R.foldl (stepE bs) st) := by
  intro R
  induction R with
  | nil =>
    intro P st e I
    rw [List.append_nil] at e
    refine ⟨fun P' k Q q => (by cases P' <;> cases q), ?_⟩
    rw [List.foldl_nil]
    rw [← e] at I
    exact I
  | cons k R ih =>
    intro P st e I
    have I2 := inv_step h hp hs e hl I
    obtain ⟨c, I3⟩ := ih (P ++ [k]) (stepE bs st k) (by rw [e, List.append_assoc]; rfl) I2
    refine ⟨fun P' k' Q q => ?_, I3⟩
    cases P' with
    | nil =>
      injection q with q1 q2
      rw [← q1]
      exact inv_ce h hp hs e hl I
    | cons x P' =>
      injection q with q1 q2
      rw [← q1]
      exact c P' k' Q q2
theorem inv_nil : InvE bs l [] ([], []) :=
  ⟨fun o => ⟨fun h => absurd h List.not_mem_nil, fun ⟨⟨x, hx, _⟩, _⟩ => absurd hx List.not_mem_nil⟩, List.nodup_nil,
    fun p => ⟨fun h => absurd h List.not_mem_nil, fun ⟨x, hx, _⟩ => absurd hx List.not_mem_nil⟩, List.nodup_nil, ⟨Nat.le_refl _, Nat.le_refl _⟩⟩
theorem in_mem {i : Nat} {a : Bx} (ha : bs[i]? = some a) : (⟨a.xl, 0, i⟩ : Ky) ∈ l := (l_mem h hp hs).mpr ⟨i, a, ha, .inl rfl⟩
theorem out_mem {i : Nat} {a : Bx} (ha : bs[i]? = some a) : (⟨a.xh, 1, i⟩ : Ky) ∈ l := (l_mem h hp hs).mpr ⟨i, a, ha, .inr rfl⟩
theorem open_iff {i j : Nat} {a b : Bx} (ha : bs[i]? = some a) (hb : bs[j]? = some b) : OpenAt l ⟨a.xl, 0, i⟩ j ↔ (⟨b.xl, 0, j⟩ : Ky).lt ⟨a.xl, 0, i⟩ ∧ a.xl ≤ b.xh := by
  have hi := in_mem h hp hs hl hb
  have ho := out_mem h hp hs hl hb
  unfold OpenAt
  constructor
  · rintro ⟨⟨x, hx, h1, h2, h3⟩, hn⟩
    have := l_uniq h hp hs hx hi h1 h2
    rw [this] at h3
    refine ⟨h3, Rat.not_lt.mp fun q => hn ⟨_, ho, rfl, rfl, .inl q⟩⟩
  · rintro ⟨h1, h2⟩
    refine ⟨⟨_, hi, rfl, rfl, h1⟩, fun ⟨y, hy, h3, h4, h5⟩ => ?_⟩
    have := l_uniq h hp hs hy ho h3 h4
    rw [this] at h5
    rcases h5 with q | ⟨_, q⟩
    · exact absurd h2 (Rat.not_le.mpr q)
    · rcases q with q | ⟨q, _⟩
      · exact absurd q (by show ¬ (1:Nat) < 0; omega)
      · exact absurd q (by show ¬ (1:Nat) = 0; omega)
theorem open_xm {i j : Nat} {a b : Bx} (ha : bs[i]? = some a) (hb : bs[j]? = some b) (hij : i ≠ j) : (OpenAt l ⟨a.xl, 0, i⟩ j ∨ OpenAt l ⟨b.xl, 0, j⟩ i) ↔ xm a b = true := by
  have oka := h a (List.mem_of_getElem? ha)
  have okb := h b (List.mem_of_getElem? hb)
  rw [open_iff h hp hs hl ha hb, open_iff h hp hs hl hb ha]
  unfold xm
  rw [Bool.and_eq_true, decide_eq_true_eq, decide_eq_true_eq]
  have le_of : ∀ {x y : Ky}, x.lt y → x.q ≤ y.q := fun {x y} q => by
    rcases q with q | ⟨q, _⟩
    · exact Rat.le_of_lt q
    · rw [q]; exact Rat.le_refl
  constructor
  · rintro (⟨h1, h2⟩ | ⟨h1, h2⟩)
    · exact ⟨h2, Rat.le_trans (le_of h1) oka.x⟩
    · exact ⟨Rat.le_trans (le_of h1) okb.x, h2⟩
  · rintro ⟨h1, h2⟩
    cases Classical.em ((⟨b.xl, 0, j⟩ : Ky).lt ⟨a.xl, 0, i⟩) with
    | inl q => exact .inl ⟨q, h1⟩
    | inr q =>
      cases Classical.em ((⟨a.xl, 0, i⟩ : Ky).lt ⟨b.xl, 0, j⟩) with
      | inl q2 => exact .inr ⟨q2, h2⟩
      | inr q2 =>
        have := Ky.tri q2 q
        injection this with _ _ q3
        exact absurd q3 hij
/-- the pairs that meet -/
def meetAt (bs : List Bx) (i j : Nat) : Bool := match bs[i]?, bs[j]? with
  | some a, some b => xm a b && ym a b
  | _, _ => false
omit h hp hs hl in
theorem ym_comm (a b : Bx) : ym a b = ym b a := by unfold ym; exact Bool.and_comm _ _
omit h hp hs hl in
theorem xm_comm (a b : Bx) : xm a b = xm b a := by unfold xm; exact Bool.and_comm _ _
theorem found_mem (p : Int × Int) : p ∈ (l.foldl (stepE bs) ([], [])).1 ↔ ∃ i j : Nat, i < j ∧ j < bs.length ∧ p = ((i : Int), (j : Int)) ∧ meetAt bs i j = true := by
  have I := (run_all h hp hs hl l [] ([], []) rfl (inv_nil h hp hs hl)).2
  rw [I.fm]
  constructor
  · rintro ⟨k, hk, h0, o, h1, h2, h3⟩
    have ho := open_valid h hp hs h3
    have hne := open_ne h hp hs hk h0 h3
    obtain ⟨i, a, ha, hk2⟩ := (l_mem h hp hs).mp hk
    have hi := (List.getElem?_eq_some_iff.mp ha).1
    rcases hk2 with rfl | rfl
    · have hb : bs[o]? = some bs[o] := List.getElem?_eq_getElem ho
      have hy : ym a bs[o] = true := by
        unfold ymAt at h2
        rw [show bs[(⟨a.xl, 0, i⟩ : Ky).i]? = some a from ha, hb] at h2
        exact h2
      have hx := (open_xm h hp hs hl ha hb hne).mp (.inl h3)
      by_cases hlt : i < o
      · refine ⟨i, o, hlt, ho, by rw [h1, pr, if_pos (show (⟨a.xl, 0, i⟩ : Ky).i < o from hlt)], ?_⟩
        unfold meetAt; rw [ha, hb]; show (xm a bs[o] && ym a bs[o]) = true; rw [hx, hy]; rfl
      · have hne' : i ≠ o := hne
        refine ⟨o, i, by omega, hi, by rw [h1, pr, if_neg (show ¬ (⟨a.xl, 0, i⟩ : Ky).i < o from hlt)], ?_⟩
        unfold meetAt; rw [ha, hb]; show (xm bs[o] a && ym bs[o] a) = true; rw [xm_comm, ym_comm, hx, hy]; rfl
    · cases h0
  · rintro ⟨i, j, hij, hj, rfl, hm⟩
    have ha : bs[i]? = some (bs[i]'(by omega)) := List.getElem?_eq_getElem _
    have hb : bs[j]? = some bs[j] := List.getElem?_eq_getElem hj
    generalize bs[i]'(by omega) = a at ha
    generalize bs[j] = b at hb
    unfold meetAt at hm
    rw [ha, hb] at hm
    have hm : (xm a b && ym a b) = true := hm
    rw [Bool.and_eq_true] at hm
    rcases (open_xm h hp hs hl ha hb (by omega)).mpr hm.1 with q | q
    · refine ⟨_, in_mem h hp hs hl ha, rfl, j, by rw [pr, if_pos (show (⟨a.xl, 0, i⟩ : Ky).i < j from hij)], ?_, q⟩
      unfold ymAt; rw [show bs[(⟨a.xl, 0, i⟩ : Ky).i]? = some a from ha, hb]; exact hm.2
    · refine ⟨_, in_mem h hp hs hl hb, rfl, i, by rw [pr, if_neg (show ¬ (⟨b.xl, 0, j⟩ : Ky).i < i from by show ¬ j < i; omega)], ?_, q⟩
      unfold ymAt; rw [show bs[(⟨b.xl, 0, j⟩ : Ky).i]? = some b from hb, ha]; exact (ym_comm b a).trans hm.2
end
end Mt

namespace Mt
open PySem PySem.Spec PyProof.Rows L2 TD Dn
theorem rng_iD (n : Nat) : rngD 0 n = (List.range n).map iD := by
  unfold rngD
  refine List.map_congr_left fun i _ => ?_
  show PyData.int (0 + (i : Nat)) = .int (i : Nat)
  rw [Int.zero_add]
def nxt (n i : Nat) : List (Int × Int) := (List.range' (i + 1) (n - (i + 1))).map fun j => (((i : Nat) : Int), ((j : Nat) : Int))
def pairsN (n : Nat) : List (Int × Int) := (List.range n).flatMap (nxt n)
theorem drop_rng (n k : Nat) : (rngD 0 n).drop k = (List.range' k (n - k)).map iD := by
  rw [rng_iD, ← List.map_drop, List.range_eq_range', List.drop_range', Nat.zero_add, Nat.mul_one]
theorem two_step {n k : Nat} (hk : k < n) (hn : n ≤ 60) {z3 : Option Sl} {fs : List (Int × Int)} (hf : fs.length ≤ 10000) :
    ∃ w3 : Option Sl, extO 1 (lcF (seqF (slcG (varD 0) (someP (bin2 addD (varD 2) (cD (.int 1)))) noP)) (nmG 3) yesB (tupD (consA (bin2 ixD (varD 0) (varD 2)) (consA (varD 3) nilA))) [3]) [some (.pu (.list (rngD 0 n))), some (.ow (fs.map prD2)), some (.pu (iD k)), z3] = .nx [some (.pu (.list (rngD 0 n))), some (.ow ((fs ++ nxt n k).map prD2)), some (.pu (iD k)), w3] := by
  refine ⟨z3, ?_⟩
  have ec : lcF (seqF (slcG (varD 0) (someP (bin2 addD (varD 2) (cD (.int 1)))) noP)) (nmG 3) yesB (tupD (consA (bin2 ixD (varD 0) (varD 2)) (consA (varD 3) nilA))) [3] [some (.pu (.list (rngD 0 n))), some (.ow (fs.map prD2)), some (.pu (iD k)), z3] = .ok ((nxt n k).map prD2) := by
    rw [lcF_ap, seqF_ap, slcG_ap]
    show lcK (sqK (slK (.ok (.list (rngD 0 n))) (.ok (some (((k + 1 : Nat)) : Int))) (.ok none))) _ _ _ _ _ = _
    rw [slK_l, sqK_l, cut_drop _ (by rw [rngD_len]; omega), drop_rng, lcK_ok (by unfold lineOk; rw [List.length_map, List.length_range']; exact decide_eq_true (by omega))]
    have hx : ixD (.list (rngD 0 n)) (iD k) = .ok (iD k) := ixD_list_nat (by rw [rng_iD, List.getElem?_map, List.getElem?_range hk]; rfl)
    have go : ∀ m : List Nat, compO (nmG 3) yesB (tupD (consA (bin2 ixD (varD 0) (varD 2)) (consA (varD 3) nilA))) (m.map iD) [some (.pu (.list (rngD 0 n))), some (.ow (fs.map prD2)), some (.pu (iD k)), none] = .ok ((m.map fun j => (((k : Nat) : Int), ((j : Nat) : Int))).map prD2) := by
      intro m
      induction m with
      | nil => rfl
      | cons j m ih =>
        rw [List.map_cons, List.map_cons, List.map_cons]
        refine compO_cons (ρ1 := [some (.pu (.list (rngD 0 n))), some (.ow (fs.map prD2)), some (.pu (iD k)), some (.pu (iD j))]) rfl ?_ ih
        simp only [tupD_ap, consA_ap, bin2_ap, varD_succ, varD_zero, k2_ok, hx, nilA_ap, cnK_ok, tuK_2]
        rfl
    exact go _
  unfold extO
  show (lcF _ _ _ _ _ _).out _ _ = _
  rw [ec, R.ok_out, if_pos (by unfold lineOk nxt; rw [List.length_map, List.length_map, List.length_map, List.length_range']; exact decide_eq_true (by omega)), ← List.map_append]
  rfl
theorem two_loop {n : Nat} (hn : n ≤ 60) : ∀ (ks : List Nat) (fs : List (Int × Int)) (z2 z3 : Option Sl), (∀ k ∈ ks, k < n) → fs.length + 60 * ks.length ≤ 10000 →
    ∃ w2 w3 : Option Sl, forO (nmG 2) (extO 1 (lcF (seqF (slcG (varD 0) (someP (bin2 addD (varD 2) (cD (.int 1)))) noP)) (nmG 3) yesB (tupD (consA (bin2 ixD (varD 0) (varD 2)) (consA (varD 3) nilA))) [3])) (ks.map iD) [some (.pu (.list (rngD 0 n))), some (.ow (fs.map prD2)), z2, z3] = .nx [some (.pu (.list (rngD 0 n))), some (.ow ((fs ++ ks.flatMap (nxt n)).map prD2)), w2, w3] := by
  intro ks
  induction ks with
  | nil => intro fs z2 z3 _ _; exact ⟨z2, z3, by rw [List.flatMap_nil, List.append_nil]; rfl⟩
  | cons k ks ih =>
    intro fs z2 z3 hk hl
    rw [List.length_cons] at hl
    obtain ⟨w3, e⟩ := two_step (hk k List.mem_cons_self) hn (z3 := z3) (fs := fs) (by omega)
    have hnl : (nxt n k).length ≤ 60 := by unfold nxt; rw [List.length_map, List.length_range']; omega
    obtain ⟨v2, v3, e2⟩ := ih (fs ++ nxt n k) (some (.pu (iD k))) w3 (fun j hj => hk j (List.mem_cons_of_mem _ hj)) (by rw [List.length_append]; omega)
    refine ⟨v2, v3, ?_⟩
    rw [List.map_cons, forO_cons (ρ1 := [some (.pu (.list (rngD 0 n))), some (.ow (fs.map prD2)), some (.pu (iD k)), z3]) rfl e, e2, List.flatMap_cons, List.append_assoc]
end Mt

namespace Mt
open PySem PySem.Spec PyProof.Rows L2 TD Dn
def ltPr (p q : Int × Int) : Prop := p.1 < q.1 ∨ (p.1 = q.1 ∧ p.2 < q.2)
theorem pairs_sorted (n : Nat) : (pairsN n).Pairwise ltPr := by
  unfold pairsN
  refine List.pairwise_flatMap.mpr ⟨fun i _ => ?_, ?_⟩
  · unfold nxt
    refine List.pairwise_map.mpr ((List.pairwise_lt_range' (s := i + 1) (n := n - (i + 1))).imp ?_)
    intro a b hab
    exact .inr ⟨rfl, by show (a : Int) < b; omega⟩
  · refine (List.pairwise_lt_range (n := n)).imp ?_
    intro a b hab x hx y hy
    obtain ⟨_, _, rfl⟩ := List.mem_map.mp hx
    obtain ⟨_, _, rfl⟩ := List.mem_map.mp hy
    exact .inl (by show (a : Int) < b; omega)
theorem pairs_mem {n : Nat} {p : Int × Int} : p ∈ pairsN n ↔ ∃ i j : Nat, i < j ∧ j < n ∧ p = ((i : Int), (j : Int)) := by
  unfold pairsN nxt
  rw [List.mem_flatMap]
  constructor
  · rintro ⟨i, hi, hp⟩
    obtain ⟨j, hj, rfl⟩ := List.mem_map.mp hp
    rw [List.mem_range] at hi
    rw [List.mem_range'_1] at hj
    exact ⟨i, j, by omega, by omega, rfl⟩
  · rintro ⟨i, j, h1, h2, rfl⟩
    exact ⟨i, List.mem_range.mpr (by omega), List.mem_map.mpr ⟨j, by rw [List.mem_range'_1]; omega, rfl⟩⟩
def due (bs : List Bx) : List (Int × Int) := (pairsN bs.length).filter fun p => meetAt bs p.1.toNat p.2.toNat
theorem due_sorted (bs : List Bx) : (due bs).Pairwise ltPr := (pairs_sorted _).sublist List.filter_sublist
theorem due_mem {bs : List Bx} {p : Int × Int} : p ∈ due bs ↔ ∃ i j : Nat, i < j ∧ j < bs.length ∧ p = ((i : Int), (j : Int)) ∧ meetAt bs i j = true := by
  unfold due
  rw [List.mem_filter, pairs_mem]
  constructor
  · rintro ⟨⟨i, j, h1, h2, rfl⟩, h3⟩; exact ⟨i, j, h1, h2, rfl, h3⟩
  · rintro ⟨i, j, h1, h2, rfl, h3⟩; exact ⟨⟨i, j, h1, h2, rfl⟩, h3⟩
theorem due_nodup (bs : List Bx) : (due bs).Nodup := (due_sorted bs).imp fun {p q} h e => by
  subst e
  rcases h with h | ⟨_, h⟩ <;> omega
theorem sort_found {bs : List Bx} (h : ∀ b ∈ bs, b.Ok) {l : List Ky} (hp : l.Perm (keysFrom 0 bs)) (hs : SrtK l) (hl : bs.length ≤ 60) : sortP (l.foldl (stepE bs) ([], [])).1 = due bs := by
  have I := (run_all h hp hs hl l [] ([], []) rfl (inv_nil h hp hs hl)).2
  refine (sortP_eq ?_ ?_).symm
  · exact (List.perm_ext_iff_of_nodup (due_nodup bs) I.fd).mpr fun p => by rw [due_mem, found_mem h hp hs hl]
  · exact (due_sorted bs).imp fun {p q} h => prLe_iff.mpr (by rcases h with h | ⟨h1, h2⟩ <;> omega)
theorem sortK_pairs (ps : List (Int × Int)) : sortK (ps.map prD2) = .ok ((sortP ps).map prD2) := by
  unfold sortK
  cases ps with
  | nil =>
    show R.ok ((sortI []).map PyData.int) = _
    rw [show sortI [] = [] from List.mergeSort_nil, show sortP [] = [] from List.mergeSort_nil]
    rfl
  | cons p ps =>
    have e : intsOf ((p :: ps).map prD2) = none := rfl
    rw [e, pairsOf_map]
theorem sweep_pairs_eq {bs : List Bx} (h : ∀ b ∈ bs, b.Ok) (hl : bs.length ≤ 60) : v_sweep_pairs [.tuple (bs.map bxD)] = .ok (.tuple ((due bs).map prD2)) := by
  obtain ⟨l, hp, hs, e⟩ := swept_eq h hl
  obtain ⟨w3, w4, w5, e2⟩ := event_loop h l ([], []) none none none (run_all h hp hs hl l [] ([], []) rfl (inv_nil h hp hs hl)).1
  unfold v_sweep_pairs
  rw [fnR_ap, show argS 6 [.tuple (bs.map bxD)] = [some (.pu (.tuple (bs.map bxD))), none, none, none, none, none] from rfl]
  unfold b_sweep_pairs
  refine (congrArg fnK (sq_nx (ρ1 := [some (.pu (.tuple (bs.map bxD))), none, none, none, none, none]) ?_)).trans ?_
  · rw [exO_ap]
    show exK (cuK 1 v_check_boxes (.ok [.tuple (bs.map bxD)])) _ = _
    rw [cuK_1, check_boxes_eq h hl, exK_ok]
  refine (congrArg fnK (sq_nx (ρ1 := [some (.pu (.tuple (bs.map bxD))), some (.ow []), some (.ow []), none, none, none]) rfl)).trans ?_
  refine (congrArg fnK (sq_nx (ρ1 := [some (.pu (.tuple (bs.map bxD))), some (.ow ((l.foldl (stepE bs) ([], [])).1.map prD2)), some (.ow ((l.foldl (stepE bs) ([], [])).2.map iD)), w3, w4, w5]) ?_)).trans ?_
  · rw [loO_ap, seqF_ap]
    show loK (sqK (cuK 1 v_swept_by (.ok [.tuple (bs.map bxD)]))) _ _ _ = _
    rw [cuK_1, e, sqK_l, loK_ok]
    exact e2
  · rw [rtO_ap, callF_ap]
    show fnK (rtK (((R.ok ((l.foldl (stepE bs) ([], [])).1.map prD2)).bind sortK).bind _) _) = _
    rw [R.ok_bind, sortK_pairs, sort_found h hp hs hl]
    rfl
end Mt

namespace Mt
open PySem PySem.Spec PyProof.Rows L2 TD Dn
/-! ### data of any form -/
mutual
def niceD : D → Bool
  | .int i => decide (i.natAbs < 2 ^ 300)
  | .list ds => niceL ds
  | .tuple ds => niceL ds
  | .dict _ => false
  | .none => true
  | .bool _ => true
  | .str x => okD (.str x)
def niceL : List D → Bool
  | [] => true
  | d :: ds => niceD d && niceL ds
end
theorem nice_nd {d : D} (h : niceD d = true) : isDict d = false := by
  cases d with
  | dict => rw [niceD] at h; cases h
  | _ => rfl
theorem niceL_cons {d : D} {ds : List D} (h : niceL (d :: ds) = true) : niceD d = true ∧ niceL ds = true := by
  rw [niceL, Bool.and_eq_true] at h; exact h
theorem niceT {ds : List D} (h : niceD (.tuple ds) = true) : niceL ds = true := by rwa [niceD] at h
theorem niceI {a : Int} (h : niceD (.int a) = true) : a.natAbs < 2 ^ 300 := by rw [niceD] at h; exact of_decide_eq_true h
def intB : D → Bool | .int _ => true | _ => false
theorem intB_inv {d : D} (h : intB d = true) : ∃ a, d = .int a := by
  cases d <;> first | exact ⟨_, rfl⟩ | cases h
theorem isint_eq {d : D} (h : isDict d = false) : v_is_integer [d] = .ok (.bool (intB d)) := by
  cases d with
  | int a => exact isint_int a
  | _ => exact isint_other (by first | exact .inl rfl | exact .inr rfl) h
def numB : D → Bool
  | .tuple [.int a, .int b] => decide (1 ≤ b) && decide ((Int.gcd a b : Int) = 1)
  | _ => false
theorem numB_no {x y : D} (h : intB x = false ∨ intB y = false) : numB (.tuple [x, y]) = false := by
  cases x <;> first | rfl | (cases y <;> first | rfl | (rcases h with h | h <;> cases h))
theorem isnum_eq {d : D} (h : niceD d = true) : v_is_number [d] = .ok (.bool (numB d)) := by
  have hd := nice_nd h
  cases d with
  | dict => cases hd
  | tuple ds =>
    match ds, h with
    | [], _ =>
      show fnK (b_is_number [some (.pu (.tuple []))]) = _
      unfold b_is_number
      simp [isiK, tyName, kit_tt, neD_int, numB]
    | [x], _ =>
      show fnK (b_is_number [some (.pu (.tuple [x]))]) = _
      unfold b_is_number
      simp [isiK, tyName, kit_tt, neD_int, numB]
    | [x, y], h =>
      obtain ⟨hx, h⟩ := niceL_cons (niceT h)
      obtain ⟨hy, _⟩ := niceL_cons h
      have ex := isint_eq (nice_nd hx)
      have ey := isint_eq (nice_nd hy)
      cases hix : intB x with
      | false =>
        rw [hix] at ex
        rw [numB_no (.inl hix)]
        show fnK (b_is_number [some (.pu (.tuple [x, y]))]) = _
        unfold b_is_number
        simp [isiK, tyName, kit_tt, neD_int, ex]
      | true =>
        cases hiy : intB y with
        | false =>
          rw [hix] at ex
          rw [hiy] at ey
          rw [numB_no (.inr hiy)]
          show fnK (b_is_number [some (.pu (.tuple [x, y]))]) = _
          unfold b_is_number
          simp [isiK, tyName, kit_tt, neD_int, ex, ey]
        | true =>
          obtain ⟨a, rfl⟩ := intB_inv hix
          obtain ⟨b, rfl⟩ := intB_inv hiy
          exact isnum_pair a b
    | x :: y :: z :: r, _ =>
      have hl : decide (((r.length : Int) + 1 + 1 + 1) = 2) = false := decide_eq_false (by omega)
      show fnK (b_is_number [some (.pu (.tuple (x :: y :: z :: r)))]) = _
      unfold b_is_number
      simp [isiK, tyName, kit_tt, neD_int, numB, -decide_eq_false_iff_not, hl]
  | _ =>
    unfold v_is_number
    rw [fnR_ap]
    unfold b_is_number
    simp [argS, isiK, tyName, kit_nt, kit_bt, kit_it, kit_st, kit_lt, numB]
theorem numB_N (q : Rat) : numB (N q) = true := by
  have h := isnum_N q
  unfold N at h
  rw [isnum_pair] at h
  injection h with h
  injection h
theorem num_inv {d : D} (hn : niceD d = true) (h : numB d = true) : ∃ q : Rat, d = N q ∧ Bd 300 q := by
  unfold numB at h
  split at h
  · rename_i a b
    rw [Bool.and_eq_true] at h
    have hb := of_decide_eq_true h.1
    have hg := of_decide_eq_true h.2
    obtain ⟨e1, e2⟩ := divInt_N (n := a) (d := b) (c := 1) (by omega) (by omega) (by omega)
    rw [Int.mul_one, Int.mul_one] at e1 e2
    obtain ⟨ha, hn⟩ := niceL_cons (niceT hn)
    obtain ⟨hb2, _⟩ := niceL_cons hn
    refine ⟨Rat.divInt a b, ?_, ?_, ?_⟩
    · unfold N; rw [e1, e2]
    · rw [e1]; exact niceI ha
    · have := niceI hb2
      omega
  · cases h
theorem nice_int {a : Int} (h : a.natAbs < 2 ^ 300) : niceD (.int a) = true := by rw [niceD]; exact decide_eq_true h
theorem nice_N {q : Rat} (h : Bd 300 q) : niceD (N q) = true := by
  unfold N
  rw [niceD, niceL, niceL, niceL, nice_int h.1, nice_int (by rw [Int.natAbs_natCast]; exact h.2)]
  rfl
/-! ### spans -/
def IsSp (d : D) : Prop := ∃ p q : Rat, d = spD p q ∧ p ≤ q ∧ Bd 300 p ∧ Bd 300 q
theorem isspan_t {d : D} (h : IsSp d) : v_is_span [d] = .ok (.bool true) := by
  obtain ⟨p, q, rfl, hle, hp, hq⟩ := h
  exact is_span_eq hp hq (by omega) hle
theorem isspan_f {d : D} (hn : niceD d = true) (h : ¬ IsSp d) : v_is_span [d] = .ok (.bool false) := by
  have hd := nice_nd hn
  cases d with
  | dict => cases hd
  | tuple ds =>
    match ds, hn, h with
    | [], _, _ =>
      show fnK (b_is_span [some (.pu (.tuple []))]) = _
      unfold b_is_span
      simp [isiK, tyName, kit_tt, neD_int]
    | [x], _, _ =>
      show fnK (b_is_span [some (.pu (.tuple [x]))]) = _
      unfold b_is_span
      simp [isiK, tyName, kit_tt, neD_int]
    | [x, y], hn, h =>
      obtain ⟨hx, hn⟩ := niceL_cons (niceT hn)
      obtain ⟨hy, _⟩ := niceL_cons hn
      have ex := isnum_eq hx
      have ey := isnum_eq hy
      show fnK (b_is_span [some (.pu (.tuple [x, y]))]) = _
      unfold b_is_span
      cases hix : numB x with
      | false => simp [isiK, tyName, kit_tt, neD_int, ex, hix]
      | true =>
        cases hiy : numB y with
        | false => simp [isiK, tyName, kit_tt, neD_int, ex, ey, hix, hiy]
        | true =>
          obtain ⟨p, rfl, hp⟩ := num_inv hx hix
          obtain ⟨q, rfl, hq⟩ := num_inv hy hiy
          have h1 : decide (sgI (ordI p q) ≤ 0) = false := decide_eq_false fun z => h ⟨p, q, rfl, (ord_le p q).mp z, hp, hq⟩
          simp [isiK, tyName, kit_tt, neD_int, isnum_N, order_eq hp hq (by omega), -decide_eq_false_iff_not, h1]
    | x :: y :: z :: r, _, _ =>
      have hl : decide (((r.length : Int) + 1 + 1 + 1) = 2) = false := decide_eq_false (by omega)
      show fnK (b_is_span [some (.pu (.tuple (x :: y :: z :: r)))]) = _
      unfold b_is_span
      simp [isiK, tyName, kit_tt, neD_int, -decide_eq_false_iff_not, hl]
  | _ =>
    unfold v_is_span
    rw [fnR_ap]
    unfold b_is_span
    simp [argS, isiK, tyName, kit_nt, kit_bt, kit_it, kit_st, kit_lt]
/-! ### boxes -/
structure Bx.Vd (b : Bx) : Prop where
  x : b.xl ≤ b.xh
  y : b.yl ≤ b.yh
  bxl : Bd 300 b.xl
  bxh : Bd 300 b.xh
  byl : Bd 300 b.yl
  byh : Bd 300 b.yh
theorem Bx.Ok.vd {b : Bx} (h : b.Ok) : b.Vd := ⟨h.x, h.y, h.bxl.up (by omega), h.bxh.up (by omega), h.byl.up (by omega), h.byh.up (by omega)⟩
def IsBx (d : D) : Prop := ∃ b : Bx, d = bxD b ∧ b.Vd
theorem isbox_t {d : D} (h : IsBx d) : v_is_box [d] = .ok (.bool true) := by
  obtain ⟨b, rfl, hb⟩ := h
  show fnK (b_is_box [some (.pu (bxD b))]) = _
  unfold b_is_box bxD
  simp [isiK, tyName, kit_tt, eqD_int, is_span_eq hb.bxl hb.bxh (by omega) hb.x, is_span_eq hb.byl hb.byh (by omega) hb.y]
theorem isbox_two {x y : D} (hx : IsSp x) (hy : IsSp y) : IsBx (.tuple [x, y]) := by
  obtain ⟨p, q, rfl, h1, h2, h3⟩ := hx
  obtain ⟨r, s, rfl, h4, h5, h6⟩ := hy
  exact ⟨⟨p, q, r, s⟩, rfl, h1, h4, h2, h3, h5, h6⟩
theorem isbox_f {d : D} (hn : niceD d = true) (h : ¬ IsBx d) : v_is_box [d] = .ok (.bool false) := by
  have hd := nice_nd hn
  cases d with
  | dict => cases hd
  | tuple ds =>
    match ds, hn, h with
    | [], _, _ =>
      show fnK (b_is_box [some (.pu (.tuple []))]) = _
      unfold b_is_box
      simp [isiK, tyName, kit_tt, eqD_int]
    | [x], _, _ =>
      show fnK (b_is_box [some (.pu (.tuple [x]))]) = _
      unfold b_is_box
      simp [isiK, tyName, kit_tt, eqD_int]
    | [x, y], hn, h =>
      obtain ⟨hx, hn⟩ := niceL_cons (niceT hn)
      obtain ⟨hy, _⟩ := niceL_cons hn
      show fnK (b_is_box [some (.pu (.tuple [x, y]))]) = _
      unfold b_is_box
      by_cases hix : IsSp x
      · have hiy : ¬ IsSp y := fun z => h (isbox_two hix z)
        simp [isiK, tyName, kit_tt, eqD_int, isspan_t hix, isspan_f hy hiy]
      · simp [isiK, tyName, kit_tt, eqD_int, isspan_f hx hix]
    | x :: y :: z :: r, _, _ =>
      have hl : decide (((r.length : Int) + 1 + 1 + 1) = 2) = false := decide_eq_false (by omega)
      show fnK (b_is_box [some (.pu (.tuple (x :: y :: z :: r)))]) = _
      unfold b_is_box
      simp [isiK, tyName, kit_tt, eqD_int, -decide_eq_false_iff_not, hl]
  | _ =>
    unfold v_is_box
    rw [fnR_ap]
    unfold b_is_box
    simp [argS, isiK, tyName, kit_nt, kit_bt, kit_it, kit_st, kit_lt]
end Mt

namespace Mt
open PySem PySem.Spec PyProof.Rows L2 TD Dn
theorem fnK_rtK {r : R D} {ρ : EnvS} : fnK (rtK r ρ) = r := by cases r <;> rfl
theorem forO_rt {h : D → EnvS → R EnvS} {gb : EnvS → Out} {d r : D} {ds : List D} {ρ ρ1 : EnvS} (e1 : h d ρ = .ok ρ1) (e2 : gb ρ1 = .rt r) : forO h gb (d :: ds) ρ = .rt r := by
  unfold forO; rw [e1]; dsimp only; rw [e2]
theorem rt_seq {f : EnvS → R D} {ρ : EnvS} {k : EnvS → Out} : fnK ((rtO f ρ).seq k) = f ρ := by rw [rtO_ap]; cases f ρ <;> rfl
end Mt

namespace Mt
open PySem PySem.Spec PyProof.Rows L2 TD Dn
/-! ### trees -/
inductive Tr where
  | leaf (k : Int)
  | fork (b : Bx) (l r : Tr)
def treD : Tr → D
  | .leaf k => .tuple [.str "leaf", .int k]
  | .fork b l r => .tuple [.str "fork", bxD b, treD l, treD r]
def Tr.ht : Tr → Nat
  | .leaf _ => 0
  | .fork _ l r => max l.ht r.ht + 1
def Tr.lv : Tr → List Int
  | .leaf k => [k]
  | .fork _ l r => l.lv ++ r.lv
def Tr.Vd : Tr → Prop
  | .leaf k => k.natAbs < 2 ^ 300
  | .fork b l r => b.Vd ∧ l.Vd ∧ r.Vd
def IsTr (n : Nat) (d : D) : Prop := ∃ t : Tr, d = treD t ∧ t.ht < n ∧ t.Vd
theorem isTr_zero {d : D} : ¬ IsTr 0 d := fun ⟨_, _, h, _⟩ => absurd h (Nat.not_lt_zero _)
theorem eqv_str (a b : Str) : PyData.eqv (.str a) (.str b) = (a == b) := by rw [PyData.eqv]
theorem eqD_str {a b : Str} (ha : okD (.str a) = true) (hb : okD (.str b) = true) : eqD (.str a) (.str b) = .ok (.bool (a == b)) := by unfold eqD; rw [ha, hb, eqv_str]; rfl
theorem neD_str {a b : Str} (ha : okD (.str a) = true) (hb : okD (.str b) = true) : neD (.str a) (.str b) = .ok (.bool (!(a == b))) := by unfold neD; rw [ha, hb, eqv_str]; rfl
theorem okLeaf : okD (.str "leaf") = true := by decide +kernel
theorem okFork : okD (.str "fork") = true := by decide +kernel
theorem niceS {a : Str} (h : niceD (.str a) = true) : okD (.str a) = true := by rwa [niceD] at h
theorem isTr_two {n : Nat} {s : Str} {x : D} (hx : niceD x = true) : IsTr (n + 1) (.tuple [.str s, x]) ↔ ((s == ("leaf" : Str)) = true ∧ intB x = true) := by
  constructor
  · rintro ⟨t, e, _, _⟩
    cases t with
    | leaf k =>
      unfold treD at e
      injection e with e
      injection e with e1 e2
      injection e2 with e2 e3
      injection e1 with e1
      subst e1 e2
      exact ⟨beq_self_eq_true _, rfl⟩
    | fork b l r =>
      unfold treD at e
      injection e with e
      injection e with e1 e2
      injection e2 with e2 e3
      cases e3
  · rintro ⟨h1, h2⟩
    obtain ⟨a, rfl⟩ := intB_inv h2
    refine ⟨.leaf a, ?_, Nat.succ_pos _, niceI hx⟩
    rw [eq_of_beq h1]
    rfl
theorem isTr_four {n : Nat} {s : Str} {b l r : D} : IsTr (n + 1) (.tuple [.str s, b, l, r]) ↔ ((s == ("fork" : Str)) = true ∧ IsBx b ∧ IsTr n l ∧ IsTr n r) := by
  constructor
  · rintro ⟨t, e, h1, h2⟩
    cases t with
    | leaf k =>
      unfold treD at e
      injection e with e
      injection e with e1 e2
      injection e2 with e2 e3
      cases e3
    | fork b l r =>
      unfold treD at e
      injection e with e
      injection e with e1 e2
      injection e2 with e2 e3
      injection e3 with e3 e4
      injection e4 with e4 e5
      injection e1 with e1
      subst e1 e2 e3 e4
      unfold Tr.ht at h1
      exact ⟨beq_self_eq_true _, ⟨b, rfl, h2.1⟩, ⟨l, rfl, by omega, h2.2.1⟩, ⟨r, rfl, by omega, h2.2.2⟩⟩
  · rintro ⟨h1, ⟨b, rfl, hb⟩, ⟨l, rfl, hl, vl⟩, ⟨r, rfl, hr, vr⟩⟩
    refine ⟨.fork b l r, ?_, ?_, hb, vl, vr⟩
    · rw [eq_of_beq h1]
      rfl
    · unfold Tr.ht
      omega
/-! ### the head of a node -/
def strB : D → Bool | .str _ => true | _ => false
def headB (deep : Int) : D → Bool
  | .tuple [x, _] => strB x && decide (deep ≤ 60)
  | .tuple [x, _, _, _] => strB x && decide (deep ≤ 60)
  | _ => false
noncomputable def HT (i j : Nat) : EnvS → R Bool := (orB (notB (asF (isiD "tuple" (varD i)))) (orB (asF (bin2 notInG (callF lenK (consA (varD i) nilA)) (tupD (consA (cD (.int 2)) (consA (cD (.int 4)) nilA))))) (orB (notB (asF (isiD "str" (bin2 ixD (varD i) (cD (.int 0)))))) (asF (bin2 gtD (varD j) (cD (.int 60)))))))
theorem notIn24 (n : Int) : notInG (.int n) (.tuple [.int 2, .int 4]) = .ok (.bool (!(decide (2 = n) || decide (4 = n)))) := by
  have h : (okD (.int n) && okD (.tuple [.int 2, .int 4])) = true := rfl
  refine (show notInG (.int n) (.tuple [.int 2, .int 4]) = .ok (.bool (!([.int 2, .int 4] : List D).any fun z => PyData.eqv z (.int n))) from if_pos (e := R.no) h).trans ?_
  simp only [List.any_cons, List.any_nil, Bool.or_false, eqv_int]
theorem isstr_eq {ρ : EnvS} {f : EnvS → R D} {d : D} (h : f ρ = .ok d) (hd : isDict d = false) : isiD "str" f ρ = .ok (.bool (strB d)) := by
  rw [isi_str h hd]; cases d <;> rfl
theorem strB_inv {d : D} (h : strB d = true) : ∃ s, d = .str s := by
  cases d <;> first | exact ⟨_, rfl⟩ | cases h
theorem head_tail {deep : Int} {ρ : EnvS} {i j : Nat} {x : D} {xs : List D} (h1 : varD i ρ = .ok (.tuple (x :: xs))) (h2 : varD j ρ = .ok (.int deep)) (hx : isDict x = false) :
    orB (notB (asF (isiD "str" (bin2 ixD (varD i) (cD (.int 0)))))) (asF (bin2 gtD (varD j) (cD (.int 60)))) ρ = .ok (!(strB x && decide (deep ≤ 60))) := by
  have e : bin2 ixD (varD i) (cD (.int 0)) ρ = .ok x := by rw [bin2_ap, h1, cD_ap, k2_ok, ixT0]
  rw [orB_ap, notB_ap, asF_ap, isstr_eq e hx, asB_ok, notK_ok]
  cases strB x with
  | false => rfl
  | true =>
    rw [Bool.not_true, orK_f, asF_ap, bin2_ap, h2, cD_ap, k2_ok, gtD_int, asB_ok, Bool.true_and]
    by_cases h : deep ≤ 60
    · rw [decide_eq_true h, decide_eq_false (by omega)]; rfl
    · rw [decide_eq_false h, decide_eq_true (by omega)]; rfl
theorem head_eq {deep : Int} {ρ : EnvS} {i j : Nat} {d : D} (h1 : varD i ρ = .ok d) (h2 : varD j ρ = .ok (.int deep)) (hn : niceD d = true) : HT i j ρ = .ok (!headB deep d) := by
  have hd := nice_nd hn
  unfold HT
  cases d with
  | dict => cases hd
  | tuple ds =>
    have e1 : notB (asF (isiD "tuple" (varD i))) ρ = .ok false := by simp [h1, isiK, tyName, kit_tt]
    have e2 : asF (bin2 notInG (callF lenK (consA (varD i) nilA)) (tupD (consA (cD (.int 2)) (consA (cD (.int 4)) nilA)))) ρ = .ok (!(decide (2 = (ds.length : Int)) || decide (4 = (ds.length : Int)))) := by
      simp only [asF_ap, bin2_ap, callF_ap, consA_ap, h1, nilA_ap, cnK_ok, R.ok_bind, lenK_tuple, tupD_ap, cD_ap, tuK_2, k2_ok, notIn24, asB_ok]
    rw [orB_ap, e1, orK_f, orB_ap, e2]
    match ds, hn, h1 with
    | [], _, _ => rfl
    | [x], _, _ => rfl
    | [x, y], hn, h1 =>
      obtain ⟨hx, _⟩ := niceL_cons (niceT hn)
      rw [show (!(decide (2 = ([x, y].length : Int)) || decide (4 = ([x, y].length : Int)))) = false from rfl, orK_f, head_tail h1 h2 (nice_nd hx)]
      rfl
    | [x, y, z], _, _ => rfl
    | [x, y, z, w], hn, h1 =>
      obtain ⟨hx, _⟩ := niceL_cons (niceT hn)
      rw [show (!(decide (2 = ([x, y, z, w].length : Int)) || decide (4 = ([x, y, z, w].length : Int)))) = false from rfl, orK_f, head_tail h1 h2 (nice_nd hx)]
      rfl
    | x :: y :: z :: w :: v :: r, _, _ =>
      have hl1 : decide (2 = ((x :: y :: z :: w :: v :: r).length : Int)) = false := decide_eq_false (by simp only [List.length_cons]; omega)
      have hl2 : decide (4 = ((x :: y :: z :: w :: v :: r).length : Int)) = false := decide_eq_false (by simp only [List.length_cons]; omega)
      rw [hl1, hl2]
      rfl
  | _ => simp [h1, isiK, tyName, kit_nt, kit_bt, kit_it, kit_st, kit_lt, headB]
theorem head_inv {deep : Int} {d : D} (h : headB deep d = true) : deep ≤ 60 ∧ ((∃ s x, d = .tuple [.str s, x]) ∨ ∃ s b l r, d = .tuple [.str s, b, l, r]) := by
  unfold headB at h
  split at h
  · rw [Bool.and_eq_true] at h
    obtain ⟨s, rfl⟩ := strB_inv h.1
    exact ⟨of_decide_eq_true h.2, .inl ⟨_, _, rfl⟩⟩
  · rw [Bool.and_eq_true] at h
    obtain ⟨s, rfl⟩ := strB_inv h.1
    exact ⟨of_decide_eq_true h.2, .inr ⟨_, _, _, _, rfl⟩⟩
  · cases h
theorem head_tr {n : Nat} {deep : Int} {d : D} (hn : deep + n = 61) (h : headB deep d = false) : ¬ IsTr n d := by
  rintro ⟨t, rfl, h1, _⟩
  have hd : deep ≤ 60 := by omega
  cases t with
  | leaf k => rw [show headB deep (treD (.leaf k)) = decide (deep ≤ 60) from Bool.true_and _, decide_eq_true hd] at h; cases h
  | fork b l r => rw [show headB deep (treD (.fork b l r)) = decide (deep ≤ 60) from Bool.true_and _, decide_eq_true hd] at h; cases h
end Mt

namespace Mt
open PySem PySem.Spec PyProof.Rows L2 TD Dn
theorem eqLen {i : Nat} {ρ : EnvS} {ds : List D} (h : varD i ρ = .ok (.tuple ds)) : asF (bin2 eqD (callF lenK (consA (varD i) nilA)) (cD (.int 2))) ρ = .ok (decide ((ds.length : Int) = 2)) := by
  rw [asF_ap, bin2_ap, callF_ap, consA_ap, h, nilA_ap, cnK_ok, R.ok_bind, lenK_tuple, cD_ap, k2_ok, eqD_int, asB_ok]
theorem nice_two {s : Str} {x : D} (h : niceD (.tuple [.str s, x]) = true) : okD (.str s) = true ∧ niceD x = true := by
  obtain ⟨h1, h2⟩ := niceL_cons (niceT h)
  exact ⟨niceS h1, (niceL_cons h2).1⟩
theorem nice_four {s : Str} {b l r : D} (h : niceD (.tuple [.str s, b, l, r]) = true) : okD (.str s) = true ∧ niceD b = true ∧ niceD l = true ∧ niceD r = true := by
  obtain ⟨h1, h2⟩ := niceL_cons (niceT h)
  obtain ⟨h3, h4⟩ := niceL_cons h2
  obtain ⟨h5, h6⟩ := niceL_cons h4
  exact ⟨niceS h1, h3, h5, (niceL_cons h6).1⟩
end Mt

namespace Mt
open PySem PySem.Spec PyProof.Rows L2 TD Dn
/-! ### the program's look at a tree -/
mutual
def szD : D → Nat
  | .tuple ds => 1 + szL ds
  | .list ds => 1 + szL ds
  | .none => 1
  | .bool _ => 1
  | .int _ => 1
  | .str _ => 1
  | .dict _ => 1
def szL : List D → Nat
  | [] => 0
  | d :: ds => szD d + szL ds
end
theorem szD_pos (d : D) : 1 ≤ szD d := by cases d <;> (rw [szD]; try omega)
section
variable {c : EnvS → R Bool} {gb : EnvS → Out} {ρ ρ2 : EnvS} {n : Nat}
theorem wh_go (hc : c ρ = .ok true) (hb : gb ρ = .nx ρ2) : whO c gb (n + 1) ρ = whO c gb n ρ2 := by rw [whO, hc, R.ok_out, if_pos rfl, hb]
theorem wh_rt {d : D} (hc : c ρ = .ok true) (hb : gb ρ = .rt d) : whO c gb (n + 1) ρ = .rt d := by rw [whO, hc, R.ok_out, if_pos rfl, hb]
theorem wh_stop (hc : c ρ = .ok false) : whO c gb (n + 1) ρ = .nx ρ := by rw [whO, hc, R.ok_out, if_neg (by decide)]
end
def wpD (p : D × Nat) : D := .tuple [p.1, .int (61 - (p.2 : Int))]
noncomputable def WT : EnvS → R Bool := (asF (bin2 gtD (callF (fun ds => .ok (.int ds.length)) (ownD 1)) (cD (.int 0))))
noncomputable def WB : EnvS → Out := (sqO (popU 1 (tupG 2 (consG (nmG 2) (consG (nmG 3) nilG))))
  (sqO (ifO (HT 2 3)
  (rtO (cD (.bool false)))
  nxO)
  (ifO (asF (bin2 eqD (callF lenK (consA (varD 2) nilA)) (cD (.int 2))))
  (ifO (orB (asF (bin2 neD (bin2 ixD (varD 2) (cD (.int 0))) (cD (.str "leaf")))) (notB (asF (callU 1 v_is_integer (consA (bin2 ixD (varD 2) (cD (.int 1))) nilA)))))
  (rtO (cD (.bool false)))
  nxO)
  (ifO (orB (asF (bin2 neD (bin2 ixD (varD 2) (cD (.int 0))) (cD (.str "fork")))) (notB (asF (callU 1 v_is_box (consA (bin2 ixD (varD 2) (cD (.int 1))) nilA)))))
  (rtO (cD (.bool false)))
  (extO 1 (newD (consA (tupD (consA (bin2 ixD (varD 2) (cD (.int 2))) (consA (bin2 addD (varD 3) (cD (.int 1))) nilA))) (consA (tupD (consA (bin2 ixD (varD 2) (cD (.int 3))) (consA (bin2 addD (varD 3) (cD (.int 1))) nilA))) nilA))))))))
def GoodW (ws : List (D × Nat)) : Prop := ∀ p ∈ ws, IsTr p.2 p.1
theorem goodW_snoc {us : List (D × Nat)} {p : D × Nat} : GoodW (us ++ [p]) ↔ GoodW us ∧ IsTr p.2 p.1 := by
  constructor
  · exact fun h => ⟨fun q hq => h q (List.mem_append_left _ hq), h p (List.mem_append_right _ (List.mem_singleton_self _))⟩
  · rintro ⟨h1, h2⟩ q hq
    rcases List.mem_append.mp hq with hq | hq
    · exact h1 q hq
    · rw [List.mem_singleton.mp hq]; exact h2
theorem pop_two {V z2 z3 : Option Sl} {us : List D} {a b : D} : popU 1 (tupG 2 (consG (nmG 2) (consG (nmG 3) nilG))) [V, some (.ow (us ++ [.tuple [a, b]])), z2, z3] = .nx [V, some (.ow us), some (.pu a), some (.pu b)] := by
  unfold popU
  simp only [List.getElem?_cons_succ, List.getElem?_cons_zero, List.length_append, List.length_singleton, Nat.add_sub_cancel, List.getElem?_append_right (Nat.le_refl _), Nat.sub_self, List.dropLast_concat]
  rfl
def wz (ws : List (D × Nat)) : Nat := (ws.map fun p => szD p.1).sum
theorem wz_snoc (us : List (D × Nat)) (p : D × Nat) : wz (us ++ [p]) = wz us + szD p.1 := by
  unfold wz
  rw [List.map_append, List.sum_append]
  simp
theorem wz_len : ∀ ws : List (D × Nat), ws.length ≤ wz ws
  | [] => Nat.le_refl _
  | p :: ws => by
    have := wz_len ws
    have := szD_pos p.1
    show ws.length + 1 ≤ szD p.1 + wz ws
    omega
theorem len_test {V z2 z3 : Option Sl} {ws : List D} : WT [V, some (.ow ws), z2, z3] = .ok (decide ((0 : Int) < (ws.length : Int))) := rfl
theorem tree_loop {V : Option Sl} : ∀ (m : Nat) (ws : List (D × Nat)) (z2 z3 : Option Sl), wz ws ≤ m → m ≤ 100000 → (∀ p ∈ ws, niceD p.1 = true ∧ p.2 ≤ 61) →
    ∃ n, (GoodW ws ∧ ∃ w2 w3, whO WT WB n [V, some (.ow (ws.map wpD)), z2, z3] = .nx [V, some (.ow []), w2, w3]) ∨ (¬ GoodW ws ∧ whO WT WB n [V, some (.ow (ws.map wpD)), z2, z3] = .rt (.bool false)) := by
  intro m
  induction m using Nat.strongRecOn with
  | _ m ih =>
  intro ws z2 z3 hm hmm hall
  rcases List.eq_nil_or_concat ws with e | ⟨us, p, e⟩
  · subst e
    exact ⟨1, .inl ⟨fun p hp => absurd hp List.not_mem_nil, z2, z3, wh_stop rfl⟩⟩
  rw [List.concat_eq_append] at e
  subst e
  obtain ⟨d, k⟩ := p
  rw [wz_snoc] at hm
  dsimp only at hm
  obtain ⟨hn, hk⟩ := hall (d, k) (List.mem_append_right _ (List.mem_singleton_self _))
  dsimp only at hn hk
  have hus : ∀ p ∈ us, niceD p.1 = true ∧ p.2 ≤ 61 := fun p hp => hall p (List.mem_append_left _ hp)
  have hsz := szD_pos d
  have hlen := wz_len us
  have hc : WT [V, some (.ow ((us ++ [(d, k)]).map wpD)), z2, z3] = .ok true := by
    rw [len_test, List.length_map, List.length_append, List.length_singleton, decide_eq_true (by omega)]
  have hpop : popU 1 (tupG 2 (consG (nmG 2) (consG (nmG 3) nilG))) [V, some (.ow ((us ++ [(d, k)]).map wpD)), z2, z3] = .nx [V, some (.ow (us.map wpD)), some (.pu d), some (.pu (.int (61 - (k : Int))))] := by
    rw [List.map_append]
    exact pop_two
  have hhead := head_eq (i := 2) (j := 3) (ρ := [V, some (.ow (us.map wpD)), some (.pu d), some (.pu (.int (61 - (k : Int))))]) (deep := 61 - (k : Int)) (d := d) rfl rfl hn
  cases hh : headB (61 - (k : Int)) d with
  | false =>
    rw [hh] at hhead
    refine ⟨1, .inr ⟨fun g => head_tr (n := k) (by omega) hh (goodW_snoc.mp g).2, wh_rt hc ?_⟩⟩
    unfold WB
    rw [sqO_ap, hpop, Out.nx_seq, sqO_ap, ifO_ap, hhead]
    rfl
  | true =>
    rw [hh] at hhead
    obtain ⟨hd60, hcase⟩ := head_inv hh
    obtain ⟨k, rfl⟩ : ∃ j, k = j + 1 := ⟨k - 1, by omega⟩
    rcases hcase with ⟨s, x, rfl⟩ | ⟨s, b, l, r, rfl⟩
    · obtain ⟨hs, hx⟩ := nice_two hn
      have e3 : asF (bin2 neD (bin2 ixD (varD 2) (cD (.int 0))) (cD (.str "leaf"))) [V, some (.ow (us.map wpD)), some (.pu (.tuple [.str s, x])), some (.pu (.int (61 - ((k + 1 : Nat) : Int))))] = .ok (!(s == ("leaf" : Str))) := by
        rw [asF_ap, bin2_ap, bin2_ap, varD_succ, varD_succ, varD_zero, cD_ap, cD_ap, k2_ok, ixT0, k2_ok, neD_str hs okLeaf, asB_ok]
      have e4 : notB (asF (callU 1 v_is_integer (consA (bin2 ixD (varD 2) (cD (.int 1))) nilA))) [V, some (.ow (us.map wpD)), some (.pu (.tuple [.str s, x])), some (.pu (.int (61 - ((k + 1 : Nat) : Int))))] = .ok (!(intB x)) := by
        rw [notB_ap, asF_ap, callU_ap, consA_ap, bin2_ap, varD_succ, varD_succ, varD_zero, cD_ap, k2_ok, ixT1, nilA_ap, cnK_ok, cuK_1, isint_eq (nice_nd hx), asB_ok, notK_ok]
      have hbody : WB [V, some (.ow ((us ++ [(PyData.tuple [.str s, x], k + 1)]).map wpD)), z2, z3] = if ((s == ("leaf" : Str)) && intB x) then .nx [V, some (.ow (us.map wpD)), some (.pu (.tuple [.str s, x])), some (.pu (.int (61 - ((k + 1 : Nat) : Int))))] else .rt (.bool false) := by
        unfold WB
        rw [sqO_ap, hpop, Out.nx_seq, sqO_ap, ifO_ap, hhead, Bool.not_true, ifK_f, nxO_ap, Out.nx_seq, ifO_ap, eqLen (i := 2) (ds := [.str s, x]) rfl, show decide ((([.str s, x] : List D).length : Int) = 2) = true from rfl, ifK_t, ifO_ap, orB_ap, e3]
        cases (s == ("leaf" : Str)) with
        | false => rfl
        | true =>
          rw [Bool.not_true, orK_f, e4]
          cases intB x <;> rfl
      cases hb : ((s == ("leaf" : Str)) && intB x) with
      | false =>
        rw [hb] at hbody
        refine ⟨1, .inr ⟨fun g => ?_, wh_rt hc hbody⟩⟩
        have := (isTr_two hx).mp (goodW_snoc.mp g).2
        rw [this.1, this.2] at hb
        cases hb
      | true =>
        rw [hb] at hbody
        rw [Bool.and_eq_true] at hb
        obtain ⟨n, h⟩ := ih (wz us) (by omega) us _ _ (Nat.le_refl _) (by omega) hus
        refine ⟨n + 1, ?_⟩
        rw [wh_go hc hbody, goodW_snoc]
        rcases h with ⟨h1, h2⟩ | ⟨h1, h2⟩
        · exact .inl ⟨⟨h1, (isTr_two hx).mpr hb⟩, h2⟩
        · exact .inr ⟨fun z => h1 z.1, h2⟩
    · obtain ⟨hs, hb, hl, hr⟩ := nice_four hn
      have e3 : asF (bin2 neD (bin2 ixD (varD 2) (cD (.int 0))) (cD (.str "fork"))) [V, some (.ow (us.map wpD)), some (.pu (.tuple [.str s, b, l, r])), some (.pu (.int (61 - ((k + 1 : Nat) : Int))))] = .ok (!(s == ("fork" : Str))) := by
        rw [asF_ap, bin2_ap, bin2_ap, varD_succ, varD_succ, varD_zero, cD_ap, cD_ap, k2_ok, ixT0, k2_ok, neD_str hs okFork, asB_ok]
      obtain ⟨p, hp, ep⟩ : ∃ p : Bool, (p = true ↔ IsBx b) ∧ v_is_box [b] = .ok (.bool p) := by
        by_cases h : IsBx b
        · exact ⟨true, ⟨fun _ => h, fun _ => rfl⟩, isbox_t h⟩
        · exact ⟨false, ⟨fun z => (by cases z), fun z => absurd z h⟩, isbox_f hb h⟩
      have e4 : notB (asF (callU 1 v_is_box (consA (bin2 ixD (varD 2) (cD (.int 1))) nilA))) [V, some (.ow (us.map wpD)), some (.pu (.tuple [.str s, b, l, r])), some (.pu (.int (61 - ((k + 1 : Nat) : Int))))] = .ok (!p) := by
        rw [notB_ap, asF_ap, callU_ap, consA_ap, bin2_ap, varD_succ, varD_succ, varD_zero, cD_ap, k2_ok, ixT1, nilA_ap, cnK_ok, cuK_1, ep, asB_ok, notK_ok]
      have e5 : extO 1 (newD (consA (tupD (consA (bin2 ixD (varD 2) (cD (.int 2))) (consA (bin2 addD (varD 3) (cD (.int 1))) nilA))) (consA (tupD (consA (bin2 ixD (varD 2) (cD (.int 3))) (consA (bin2 addD (varD 3) (cD (.int 1))) nilA))) nilA))) [V, some (.ow (us.map wpD)), some (.pu (.tuple [.str s, b, l, r])), some (.pu (.int (61 - ((k + 1 : Nat) : Int))))] = .nx [V, some (.ow ((us ++ [(l, k)] ++ [(r, k)]).map wpD)), some (.pu (.tuple [.str s, b, l, r])), some (.pu (.int (61 - ((k + 1 : Nat) : Int))))] := by
        have hk' : (61 - ((k + 1 : Nat) : Int)) + 1 = 61 - (k : Int) := by omega
        unfold extO
        rw [show ([V, some (.ow (us.map wpD)), some (.pu (.tuple [.str s, b, l, r])), some (.pu (.int (61 - ((k + 1 : Nat) : Int))))] : EnvS)[1]? = some (some (.ow (us.map wpD))) from rfl]
        dsimp only
        simp only [newD_ap, tupD_ap, consA_ap, bin2_ap, varD_succ, varD_zero, cD_ap, k2_ok, ixT2, ixT3, addD_int, hk', nilA_ap, cnK_ok, tuK_2]
        rw [show nwK (.ok [.tuple [l, .int (61 - (k : Int))], .tuple [r, .int (61 - (k : Int))]]) = .ok [wpD (l, k), wpD (r, k)] from rfl, R.ok_out, if_pos (by unfold lineOk; rw [List.length_map]; exact decide_eq_true (by simp only [List.length_cons, List.length_nil]; omega))]
        rw [List.map_append, List.map_append, List.append_assoc]
        rfl
      have hbody : WB [V, some (.ow ((us ++ [(PyData.tuple [.str s, b, l, r], k + 1)]).map wpD)), z2, z3] = if ((s == ("fork" : Str)) && p) then .nx [V, some (.ow ((us ++ [(l, k)] ++ [(r, k)]).map wpD)), some (.pu (.tuple [.str s, b, l, r])), some (.pu (.int (61 - ((k + 1 : Nat) : Int))))] else .rt (.bool false) := by
        unfold WB
        rw [sqO_ap, hpop, Out.nx_seq, sqO_ap, ifO_ap, hhead, Bool.not_true, ifK_f, nxO_ap, Out.nx_seq, ifO_ap, eqLen (i := 2) (ds := [.str s, b, l, r]) rfl, show decide ((([.str s, b, l, r] : List D).length : Int) = 2) = false from rfl, ifK_f, ifO_ap, orB_ap, e3]
        cases (s == ("fork" : Str)) with
        | false => rfl
        | true =>
          rw [Bool.not_true, orK_f, e4]
          cases p with
          | false => rfl
          | true => rw [Bool.not_true, ifK_f, e5]; rfl
      cases hbb : ((s == ("fork" : Str)) && p) with
      | false =>
        rw [hbb] at hbody
        refine ⟨1, .inr ⟨fun g => ?_, wh_rt hc hbody⟩⟩
        have := isTr_four.mp (goodW_snoc.mp g).2
        rw [this.1, hp.mpr this.2.1] at hbb
        cases hbb
      | true =>
        rw [hbb] at hbody
        rw [Bool.and_eq_true] at hbb
        have hszd : szD (.tuple [.str s, b, l, r]) = 2 + (szD b + (szD l + szD r)) := by
          rw [szD, szL, szL, szL, szL, szL, szD]; omega
        have hb1 := szD_pos b
        obtain ⟨n, h⟩ := ih (wz (us ++ [(l, k)] ++ [(r, k)])) (by rw [wz_snoc, wz_snoc]; dsimp only; omega) (us ++ [(l, k)] ++ [(r, k)]) (some (.pu (.tuple [.str s, b, l, r]))) (some (.pu (.int (61 - ((k + 1 : Nat) : Int))))) (Nat.le_refl _) (by rw [wz_snoc, wz_snoc]; dsimp only; omega) (fun p hp => by
          rcases List.mem_append.mp hp with hp | hp
          · rcases List.mem_append.mp hp with hp | hp
            · exact hus p hp
            · rw [List.mem_singleton.mp hp]; exact ⟨hl, by omega⟩
          · rw [List.mem_singleton.mp hp]; exact ⟨hr, by omega⟩)
        refine ⟨n + 1, ?_⟩
        rw [wh_go hc hbody, goodW_snoc]
        rw [goodW_snoc, goodW_snoc] at h
        rcases h with ⟨h1, h2⟩ | ⟨h1, h2⟩
        · exact .inl ⟨⟨h1.1.1, isTr_four.mpr ⟨hbb.1, hp.mp hbb.2, h1.1.2, h1.2⟩⟩, h2⟩
        · refine .inr ⟨fun z => h1 ?_, h2⟩
          have := isTr_four.mp z.2
          exact ⟨⟨z.1, this.2.2.1⟩, this.2.2.2⟩
theorem is_tree_eq {d : D} (hn : niceD d = true) (hs : szD d ≤ 100000) : ∃ p : Bool, (p = true ↔ IsTr 61 d) ∧ v__is_tree [d] = .ok (.bool p) := by
  obtain ⟨n, h⟩ := tree_loop (V := some (.pu d)) (szD d) [(d, 61)] none none (by unfold wz; simp) hs (fun p hp => by rw [List.mem_singleton.mp hp]; exact ⟨hn, Nat.le_refl _⟩)
  have hstart : owO 1 (newD (consA (tupD (consA (varD 0) (consA (cD (.int 0)) nilA))) nilA)) [some (.pu d), none, none, none] = .nx [some (.pu d), some (.ow ([(d, 61)].map wpD)), none, none] := rfl
  rcases h with ⟨h1, w2, w3, e⟩ | ⟨h1, e⟩
  · refine ⟨true, ⟨fun _ => h1 (d, 61) (List.mem_singleton_self _), fun _ => rfl⟩, ?_⟩
    show fnK (b__is_tree [some (.pu d), none, none, none]) = _
    unfold b__is_tree
    rw [sqO_ap, hstart, Out.nx_seq, sqO_ap]
    have e2 := whX_eq n e (by intro h; cases h)
    unfold WT WB HT at e2
    rw [e2]
    rfl
  · refine ⟨false, ⟨fun z => (by cases z), fun z => absurd (fun p hp => by rw [List.mem_singleton.mp hp]; exact z) h1⟩, ?_⟩
    show fnK (b__is_tree [some (.pu d), none, none, none]) = _
    unfold b__is_tree
    rw [sqO_ap, hstart, Out.nx_seq, sqO_ap]
    have e2 := whX_eq n e (by intro h; cases h)
    unfold WT WB HT at e2
    rw [e2]
    rfl
end Mt

namespace Mt
open PySem PySem.Spec PyProof.Rows L2 TD Dn
theorem cut_tail {α : Type} (x : α) (xs : List α) : TD.cutD (x :: xs) (some 1) none = xs := by
  rw [show (1 : Int) = ((1 : Nat) : Int) from rfl, cut_drop _ (by rw [List.length_cons]; omega)]
  rfl
/-! ### the least and the greatest of numbers -/
def mnR (m x : Rat) : Rat := if x < m then x else m
def mxR (m x : Rat) : Rat := if m < x then x else m
theorem mn_bd {k : Nat} {m x : Rat} (h1 : Bd k m) (h2 : Bd k x) : Bd k (mnR m x) := by unfold mnR; split <;> assumption
theorem mx_bd {k : Nat} {m x : Rat} (h1 : Bd k m) (h2 : Bd k x) : Bd k (mxR m x) := by unfold mxR; split <;> assumption
theorem mn_fold_bd {k : Nat} : ∀ (qs : List Rat) (q : Rat), Bd k q → (∀ x ∈ qs, Bd k x) → Bd k (qs.foldl mnR q)
  | [], _, h, _ => h
  | x :: qs, q, h, h2 => mn_fold_bd qs (mnR q x) (mn_bd h (h2 x List.mem_cons_self)) fun y hy => h2 y (List.mem_cons_of_mem _ hy)
theorem mx_fold_bd {k : Nat} : ∀ (qs : List Rat) (q : Rat), Bd k q → (∀ x ∈ qs, Bd k x) → Bd k (qs.foldl mxR q)
  | [], _, h, _ => h
  | x :: qs, q, h, h2 => mx_fold_bd qs (mxR q x) (mx_bd h (h2 x List.mem_cons_self)) fun y hy => h2 y (List.mem_cons_of_mem _ hy)
noncomputable def BLe : EnvS → Out := (ifO (asF (bin2 ltD (callU 2 v_order (consA (varD 2) (consA (varD 1) nilA))) (cD (.int 0))))
  (stO 1 (varD 2))
  nxO)
noncomputable def BGr : EnvS → Out := (ifO (asF (bin2 gtD (callU 2 v_order (consA (varD 2) (consA (varD 1) nilA))) (cD (.int 0))))
  (stO 1 (varD 2))
  nxO)
theorem le_loop {A : Option Sl} : ∀ (qs : List Rat) (q : Rat) (z2 : Option Sl), Bd 300 q → (∀ x ∈ qs, Bd 300 x) → ∃ w2, forO (nmG 2) BLe (qs.map N) [A, some (.pu (N q)), z2] = .nx [A, some (.pu (N (qs.foldl mnR q))), w2]
  | [], q, z2, _, _ => ⟨z2, rfl⟩
  | x :: qs, q, z2, h, h2 => by
    have hx := h2 x List.mem_cons_self
    obtain ⟨w2, e⟩ := le_loop qs (mnR q x) (some (.pu (N x))) (mn_bd h hx) fun y hy => h2 y (List.mem_cons_of_mem _ hy)
    refine ⟨w2, ?_⟩
    rw [List.map_cons, forO_cons (ρ1 := [A, some (.pu (N q)), some (.pu (N x))]) (ρ2 := [A, some (.pu (N (mnR q x))), some (.pu (N x))]) rfl ?_]
    · exact e
    have hd : decide (sgI (ordI x q) < 0) = decide (x < q) := by rw [decide_eq_decide, sg_neg, ord_neg]
    unfold BLe
    rw [ifO_ap]
    simp only [asF_ap, bin2_ap, callU_ap, consA_ap, varD_succ, varD_zero, nilA_ap, cnK_ok, cuK_2, order_eq hx h (by omega : 300 + 300 < 7000), cD_ap, k2_ok, ltD_int, hd, asB_ok]
    unfold mnR
    by_cases hlt : x < q
    · rw [decide_eq_true hlt, ifK_t, if_pos hlt]; rfl
    · rw [decide_eq_false hlt, ifK_f, if_neg hlt]; rfl
theorem gr_loop {A : Option Sl} : ∀ (qs : List Rat) (q : Rat) (z2 : Option Sl), Bd 300 q → (∀ x ∈ qs, Bd 300 x) → ∃ w2, forO (nmG 2) BGr (qs.map N) [A, some (.pu (N q)), z2] = .nx [A, some (.pu (N (qs.foldl mxR q))), w2]
  | [], q, z2, _, _ => ⟨z2, rfl⟩
  | x :: qs, q, z2, h, h2 => by
    have hx := h2 x List.mem_cons_self
    obtain ⟨w2, e⟩ := gr_loop qs (mxR q x) (some (.pu (N x))) (mx_bd h hx) fun y hy => h2 y (List.mem_cons_of_mem _ hy)
    refine ⟨w2, ?_⟩
    rw [List.map_cons, forO_cons (ρ1 := [A, some (.pu (N q)), some (.pu (N x))]) (ρ2 := [A, some (.pu (N (mxR q x))), some (.pu (N x))]) rfl ?_]
    · exact e
    have hd : decide (0 < sgI (ordI x q)) = decide (q < x) := by rw [decide_eq_decide, sg_pos, ord_pos]
    unfold BGr
    rw [ifO_ap]
    simp only [asF_ap, bin2_ap, callU_ap, consA_ap, varD_succ, varD_zero, nilA_ap, cnK_ok, cuK_2, order_eq hx h (by omega : 300 + 300 < 7000), cD_ap, k2_ok, gtD_int, hd, asB_ok]
    unfold mxR
    by_cases hlt : q < x
    · rw [decide_eq_true hlt, ifK_t, if_pos hlt]; rfl
    · rw [decide_eq_false hlt, ifK_f, if_neg hlt]; rfl
theorem least_eq {q : Rat} {qs : List Rat} (h : Bd 300 q) (h2 : ∀ x ∈ qs, Bd 300 x) : v_least_of [.list ((q :: qs).map N)] = .ok (N (qs.foldl mnR q)) := by
  obtain ⟨w2, e⟩ := le_loop (A := some (.pu (.list ((q :: qs).map N)))) qs q none h h2
  show fnK (b_least_of [some (.pu (.list ((q :: qs).map N))), none, none]) = _
  unfold b_least_of
  refine (congrArg fnK (sq_nx (ρ1 := [some (.pu (.list ((q :: qs).map N))), some (.pu (N q)), none]) rfl)).trans ?_
  refine (congrArg fnK (sq_nx (ρ1 := [some (.pu (.list ((q :: qs).map N))), some (.pu (N (qs.foldl mnR q))), w2]) ?_)).trans rfl
  rw [loO_ap, seqF_ap, slcG_ap, varD_zero, someP_ap, cD_ap, smK_ok, noP_ap, slK_l, List.map_cons, cut_tail, sqK_l, loK_ok]
  exact e
theorem greatest_eq {q : Rat} {qs : List Rat} (h : Bd 300 q) (h2 : ∀ x ∈ qs, Bd 300 x) : v_greatest_of [.list ((q :: qs).map N)] = .ok (N (qs.foldl mxR q)) := by
  obtain ⟨w2, e⟩ := gr_loop (A := some (.pu (.list ((q :: qs).map N)))) qs q none h h2
  show fnK (b_greatest_of [some (.pu (.list ((q :: qs).map N))), none, none]) = _
  unfold b_greatest_of
  refine (congrArg fnK (sq_nx (ρ1 := [some (.pu (.list ((q :: qs).map N))), some (.pu (N q)), none]) rfl)).trans ?_
  refine (congrArg fnK (sq_nx (ρ1 := [some (.pu (.list ((q :: qs).map N))), some (.pu (N (qs.foldl mxR q))), w2]) ?_)).trans rfl
  rw [loO_ap, seqF_ap, slcG_ap, varD_zero, someP_ap, cD_ap, smK_ok, noP_ap, slK_l, List.map_cons, cut_tail, sqK_l, loK_ok]
  exact e
/-! ### boxes around boxes -/
def Bx.around (b : Bx) (bs : List Bx) : Bx := ⟨(bs.map Bx.xl).foldl mnR b.xl, (bs.map Bx.xh).foldl mxR b.xh, (bs.map Bx.yl).foldl mnR b.yl, (bs.map Bx.yh).foldl mxR b.yh⟩
theorem comp_map {α : Type} {i : Nat} {fe : EnvS → R D} {ρ : EnvS} {g h : α → D} (xs : List α) (hf : ∀ x ∈ xs, fe (ρ.set i (some (.pu (g x)))) = .ok (h x)) : compO (nmG i) yesB fe (xs.map g) ρ = .ok (xs.map h) := by
  induction xs with
  | nil => rfl
  | cons x xs ih =>
    rw [List.map_cons, List.map_cons]
    exact compO_cons (ρ1 := ρ.set i (some (.pu (g x)))) rfl (hf x List.mem_cons_self) (ih fun y hy => hf y (List.mem_cons_of_mem _ hy))
theorem span_around_eq {b : Bx} {bs : List Bx} {lo hi : Bx → Rat} (hl : bs.length ≤ 1000) (h : Bd 300 (lo b) ∧ Bd 300 (hi b)) (h2 : ∀ x ∈ bs, Bd 300 (lo x) ∧ Bd 300 (hi x)) :
    v__span_around [.list ((b :: bs).map fun x => spD (lo x) (hi x))] = .ok (spD ((bs.map lo).foldl mnR (lo b)) ((bs.map hi).foldl mxR (hi b))) := by
  have hlen : lineOk ((b :: bs).map fun x => spD (lo x) (hi x)).length = true := by unfold lineOk; rw [List.length_map, List.length_cons]; exact decide_eq_true (by omega)
  have e1 : lcF (seqF (varD 0)) (nmG 1) yesB (bin2 ixD (varD 1) (cD (.int 0))) [1] [some (.pu (.list ((b :: bs).map fun x => spD (lo x) (hi x)))), none] = .ok ((lo b :: bs.map lo).map N) := by
    rw [lcF_ap, seqF_ap, varD_zero, sqK_l, lcK_ok hlen]
    refine (comp_map (h := fun x => N (lo x)) (b :: bs) fun x _ => rfl).trans ?_
    rw [← List.map_cons, List.map_map]; rfl
  have e2 : lcF (seqF (varD 0)) (nmG 1) yesB (bin2 ixD (varD 1) (cD (.int 1))) [1] [some (.pu (.list ((b :: bs).map fun x => spD (lo x) (hi x)))), none] = .ok ((hi b :: bs.map hi).map N) := by
    rw [lcF_ap, seqF_ap, varD_zero, sqK_l, lcK_ok hlen]
    refine (comp_map (h := fun x => N (hi x)) (b :: bs) fun x _ => rfl).trans ?_
    rw [← List.map_cons, List.map_map]; rfl
  have l1 := least_eq (q := lo b) (qs := bs.map lo) h.1 (fun x hx => by obtain ⟨y, hy, rfl⟩ := List.mem_map.mp hx; exact (h2 y hy).1)
  have l2 := greatest_eq (q := hi b) (qs := bs.map hi) h.2 (fun x hx => by obtain ⟨y, hy, rfl⟩ := List.mem_map.mp hx; exact (h2 y hy).2)
  show fnK (b__span_around [some (.pu (.list ((b :: bs).map fun x => spD (lo x) (hi x)))), none]) = _
  unfold b__span_around
  rw [rtO_ap, fnK_rtK, tupD_ap, consA_ap, callU_ap, consA_ap, lstF_ap, e1, lsK_ok, nilA_ap, cnK_ok, cuK_1, l1, consA_ap, callU_ap, consA_ap, lstF_ap, e2, lsK_ok, nilA_ap, cnK_ok, cuK_1, l2]
  rfl
theorem around_eq {b : Bx} {bs : List Bx} (hl : bs.length ≤ 1000) (h : b.Vd) (h2 : ∀ x ∈ bs, x.Vd) : v_around_by [.list ((b :: bs).map bxD)] = .ok (bxD (b.around bs)) := by
  have hlen : lineOk ((b :: bs).map bxD).length = true := by unfold lineOk; rw [List.length_map, List.length_cons]; exact decide_eq_true (by omega)
  have e1 : lcF (seqF (varD 0)) (nmG 1) yesB (bin2 ixD (varD 1) (cD (.int 0))) [1] [some (.pu (.list ((b :: bs).map bxD))), none] = .ok ((b :: bs).map fun x => spD x.xl x.xh) := by
    rw [lcF_ap, seqF_ap, varD_zero, sqK_l, lcK_ok hlen]
    exact comp_map (b :: bs) fun x _ => rfl
  have e2 : lcF (seqF (varD 0)) (nmG 1) yesB (bin2 ixD (varD 1) (cD (.int 1))) [1] [some (.pu (.list ((b :: bs).map bxD))), none] = .ok ((b :: bs).map fun x => spD x.yl x.yh) := by
    rw [lcF_ap, seqF_ap, varD_zero, sqK_l, lcK_ok hlen]
    exact comp_map (b :: bs) fun x _ => rfl
  have s1 := span_around_eq (b := b) (bs := bs) (lo := Bx.xl) (hi := Bx.xh) hl ⟨h.bxl, h.bxh⟩ fun x hx => ⟨(h2 x hx).bxl, (h2 x hx).bxh⟩
  have s2 := span_around_eq (b := b) (bs := bs) (lo := Bx.yl) (hi := Bx.yh) hl ⟨h.byl, h.byh⟩ fun x hx => ⟨(h2 x hx).byl, (h2 x hx).byh⟩
  show fnK (b_around_by [some (.pu (.list ((b :: bs).map bxD))), none]) = _
  unfold b_around_by
  rw [rtO_ap, fnK_rtK, tupD_ap, consA_ap, callU_ap, consA_ap, lstF_ap, e1, lsK_ok, nilA_ap, cnK_ok, cuK_1, s1, consA_ap, callU_ap, consA_ap, lstF_ap, e2, lsK_ok, nilA_ap, cnK_ok, cuK_1, s2]
  rfl
/-! ### the law's own -/
noncomputable def BEd : EnvS → Out := (ifO (ifB (asF (varD 1)) (asF (callU 2 v__law_less (consA (varD 2) (consA (varD 3) nilA)))) (asF (callU 2 v__law_less (consA (varD 3) (consA (varD 2) nilA)))))
  (stO 2 (varD 3))
  nxO)
def edR (m : Bool) : Rat → Rat → Rat := if m then mxR else mnR
theorem ed_bd {k : Nat} {m : Bool} {a x : Rat} (h1 : Bd k a) (h2 : Bd k x) : Bd k (edR m a x) := by
  cases m
  · exact mn_bd h1 h2
  · exact mx_bd h1 h2
theorem ed_loop {A : Option Sl} {m : Bool} : ∀ (qs : List Rat) (q : Rat) (z2 : Option Sl), Bd 300 q → (∀ x ∈ qs, Bd 300 x) → ∃ w2, forO (nmG 3) BEd (qs.map N) [A, some (.pu (.bool m)), some (.pu (N q)), z2] = .nx [A, some (.pu (.bool m)), some (.pu (N (qs.foldl (edR m) q))), w2]
  | [], q, z2, _, _ => ⟨z2, rfl⟩
  | x :: qs, q, z2, h, h2 => by
    have hx := h2 x List.mem_cons_self
    obtain ⟨w2, e⟩ := ed_loop (A := A) (m := m) qs (edR m q x) (some (.pu (N x))) (ed_bd h hx) fun y hy => h2 y (List.mem_cons_of_mem _ hy)
    refine ⟨w2, ?_⟩
    rw [List.map_cons, forO_cons (ρ1 := [A, some (.pu (.bool m)), some (.pu (N q)), some (.pu (N x))]) (ρ2 := [A, some (.pu (.bool m)), some (.pu (N (edR m q x))), some (.pu (N x))]) rfl ?_]
    · exact e
    unfold BEd
    rw [ifO_ap, ifB_ap, asF_ap, varD_succ, varD_zero, asB_ok]
    cases m with
    | true =>
      rw [ifBK_t, asF_ap, callU_ap, consA_ap, consA_ap, nilA_ap, varD_succ, varD_succ, varD_succ, varD_zero, varD_succ, varD_succ, varD_zero, cnK_ok, cnK_ok, cuK_2, less_eq h hx (by omega : 300 + 300 < 7000), asB_ok]
      unfold edR mxR
      by_cases hlt : q < x
      · rw [decide_eq_true hlt, ifK_t, if_pos rfl, if_pos hlt]; rfl
      · rw [decide_eq_false hlt, ifK_f, if_pos rfl, if_neg hlt]; rfl
    | false =>
      rw [ifBK_f, asF_ap, callU_ap, consA_ap, consA_ap, nilA_ap, varD_succ, varD_succ, varD_succ, varD_zero, varD_succ, varD_succ, varD_zero, cnK_ok, cnK_ok, cuK_2, less_eq hx h (by omega : 300 + 300 < 7000), asB_ok]
      unfold edR mnR
      by_cases hlt : x < q
      · rw [decide_eq_true hlt, ifK_t, if_neg (by decide), if_pos hlt]; rfl
      · rw [decide_eq_false hlt, ifK_f, if_neg (by decide), if_neg hlt]; rfl
theorem edge_eq {m : Bool} {q : Rat} {qs : List Rat} (h : Bd 300 q) (h2 : ∀ x ∈ qs, Bd 300 x) : v__law_edge [.list ((q :: qs).map N), .bool m] = .ok (N (qs.foldl (edR m) q)) := by
  obtain ⟨w2, e⟩ := ed_loop (A := some (.pu (.list ((q :: qs).map N)))) (m := m) qs q none h h2
  show fnK (b__law_edge [some (.pu (.list ((q :: qs).map N))), some (.pu (.bool m)), none, none]) = _
  unfold b__law_edge
  refine (congrArg fnK (sq_nx (ρ1 := [some (.pu (.list ((q :: qs).map N))), some (.pu (.bool m)), some (.pu (N q)), none]) rfl)).trans ?_
  refine (congrArg fnK (sq_nx (ρ1 := [some (.pu (.list ((q :: qs).map N))), some (.pu (.bool m)), some (.pu (N (qs.foldl (edR m) q))), w2]) ?_)).trans rfl
  rw [loO_ap, seqF_ap, slcG_ap, varD_zero, someP_ap, cD_ap, smK_ok, noP_ap, slK_l, List.map_cons, cut_tail, sqK_l, loK_ok]
  exact e
theorem around_part {b : Bx} {bs : List Bx} {k : Int} {lo hi : Bx → Rat} (hl : bs.length ≤ 1000) (h : Bd 300 (lo b) ∧ Bd 300 (hi b)) (h2 : ∀ x ∈ bs, Bd 300 (lo x) ∧ Bd 300 (hi x)) (hk : ∀ x : Bx, ixD (bxD x) (.int k) = .ok (spD (lo x) (hi x))) :
    tupD (consA (callU 2 v__law_edge (consA (lstF (lcF (seqF (varD 0)) (nmG 2) yesB (bin2 ixD (bin2 ixD (varD 2) (varD 1)) (cD (.int 0))) [2])) (consA (cD (.bool false)) nilA))) (consA (callU 2 v__law_edge (consA (lstF (lcF (seqF (varD 0)) (nmG 2) yesB (bin2 ixD (bin2 ixD (varD 2) (varD 1)) (cD (.int 1))) [2])) (consA (cD (.bool true)) nilA))) nilA)) [some (.pu (.list ((b :: bs).map bxD))), some (.pu (.int k)), none] = .ok (spD ((bs.map lo).foldl mnR (lo b)) ((bs.map hi).foldl mxR (hi b))) := by
  have hlen : lineOk ((b :: bs).map bxD).length = true := by unfold lineOk; rw [List.length_map, List.length_cons]; exact decide_eq_true (by omega)
  have e1 : lcF (seqF (varD 0)) (nmG 2) yesB (bin2 ixD (bin2 ixD (varD 2) (varD 1)) (cD (.int 0))) [2] [some (.pu (.list ((b :: bs).map bxD))), some (.pu (.int k)), none] = .ok ((lo b :: bs.map lo).map N) := by
    rw [lcF_ap, seqF_ap, varD_zero, sqK_l, lcK_ok hlen]
    refine (comp_map (h := fun x => N (lo x)) (b :: bs) fun x _ => ?_).trans ?_
    · simp only [wipeS_cons, wipeS_nil, List.set, bin2_ap, varD_succ, varD_zero, cD_ap, k2_ok, hk, ixS0]
    · rw [← List.map_cons, List.map_map]; rfl
  have e2 : lcF (seqF (varD 0)) (nmG 2) yesB (bin2 ixD (bin2 ixD (varD 2) (varD 1)) (cD (.int 1))) [2] [some (.pu (.list ((b :: bs).map bxD))), some (.pu (.int k)), none] = .ok ((hi b :: bs.map hi).map N) := by
    rw [lcF_ap, seqF_ap, varD_zero, sqK_l, lcK_ok hlen]
    refine (comp_map (h := fun x => N (hi x)) (b :: bs) fun x _ => ?_).trans ?_
    · simp only [wipeS_cons, wipeS_nil, List.set, bin2_ap, varD_succ, varD_zero, cD_ap, k2_ok, hk, ixS1]
    · rw [← List.map_cons, List.map_map]; rfl
  have l1 := edge_eq (m := false) (q := lo b) (qs := bs.map lo) h.1 (fun x hx => by obtain ⟨y, hy, rfl⟩ := List.mem_map.mp hx; exact (h2 y hy).1)
  have l2 := edge_eq (m := true) (q := hi b) (qs := bs.map hi) h.2 (fun x hx => by obtain ⟨y, hy, rfl⟩ := List.mem_map.mp hx; exact (h2 y hy).2)
  rw [tupD_ap, consA_ap, callU_ap, consA_ap, lstF_ap, e1, lsK_ok, consA_ap, cD_ap, nilA_ap, cnK_ok, cnK_ok, cuK_2, l1, consA_ap, callU_ap, consA_ap, lstF_ap, e2, lsK_ok, consA_ap, cD_ap, nilA_ap, cnK_ok, cnK_ok, cuK_2, l2]
  rfl
theorem laround_eq {b : Bx} {bs : List Bx} (hl : bs.length ≤ 1000) (h : b.Vd) (h2 : ∀ x ∈ bs, x.Vd) : v__law_around [.list ((b :: bs).map bxD)] = .ok (bxD (b.around bs)) := by
  show fnK (b__law_around [some (.pu (.list ((b :: bs).map bxD))), none, none]) = _
  unfold b__law_around
  rw [rtO_ap, fnK_rtK, callF_ap, lcF_ap, show seqF (tupD (consA (cD (.int 0)) (consA (cD (.int 1)) nilA))) [some (.pu (.list ((b :: bs).map bxD))), none, none] = .ok [.int 0, .int 1] from rfl, lcK_ok rfl]
  have p0 := around_part (k := 0) (lo := Bx.xl) (hi := Bx.xh) hl ⟨h.bxl, h.bxh⟩ (fun x hx => ⟨(h2 x hx).bxl, (h2 x hx).bxh⟩) (fun x => rfl)
  have p1 := around_part (k := 1) (lo := Bx.yl) (hi := Bx.yh) hl ⟨h.byl, h.byh⟩ (fun x hx => ⟨(h2 x hx).byl, (h2 x hx).byh⟩) (fun x => rfl)
  rw [compO_cons (ρ1 := [some (.pu (.list ((b :: bs).map bxD))), some (.pu (.int 0)), none]) rfl p0 (compO_cons (ρ1 := [some (.pu (.list ((b :: bs).map bxD))), some (.pu (.int 1)), none]) rfl p1 rfl)]
  rfl
end Mt

namespace Mt
open PySem PySem.Spec PyProof.Rows L2 TD Dn
/-! ### within -/
def wiB (a b : Bx) : Bool := (decide (b.xl ≤ a.xl) && decide (a.xh ≤ b.xh)) && (decide (b.yl ≤ a.yl) && decide (a.yh ≤ b.yh))
theorem mn_eq (m x : Rat) : mnR m x = x ↔ x ≤ m := by
  unfold mnR
  split
  · rename_i h; exact ⟨fun _ => Rat.le_of_lt h, fun _ => rfl⟩
  · rename_i h
    constructor
    · intro e; rw [e]; exact Rat.le_refl
    · intro h2; exact Rat.le_antisymm (Rat.not_lt.mp h) h2
theorem mx_eq (m x : Rat) : mxR m x = x ↔ m ≤ x := by
  unfold mxR
  split
  · rename_i h; exact ⟨fun _ => Rat.le_of_lt h, fun _ => rfl⟩
  · rename_i h
    constructor
    · intro e; rw [e]; exact Rat.le_refl
    · intro h2; exact Rat.le_antisymm h2 (Rat.not_lt.mp h)
theorem eqv_two (a b c d : D) : PyData.eqv (.tuple [a, b]) (.tuple [c, d]) = (PyData.eqv a c && PyData.eqv b d) := by
  rw [show PyData.eqv (.tuple [a, b]) (.tuple [c, d]) = PyData.eqvAll [a, b] [c, d] by rw [PyData.eqv]]
  rw [PyData.eqvAll, PyData.eqvAll, PyData.eqvAll, Bool.and_true]
theorem eqv_bx (a b : Bx) : PyData.eqv (bxD a) (bxD b) = ((decide (a.xl = b.xl) && decide (a.xh = b.xh)) && (decide (a.yl = b.yl) && decide (a.yh = b.yh))) := by
  unfold bxD spD
  rw [eqv_two, eqv_two, eqv_two, eqv_N, eqv_N, eqv_N, eqv_N]
theorem within_eq {a b : Bx} (ha : a.Vd) (hb : b.Vd) : v__is_within [bxD a, bxD b] = .ok (.bool (wiB a b)) := by
  have e := around_eq (b := a) (bs := [b]) (by simp) ha (fun x hx => by rw [List.mem_singleton.mp hx]; exact hb)
  have e0 : callU 1 v_around_by (consA (lstF (newD (consA (varD 0) (consA (varD 1) nilA)))) nilA) [some (.pu (bxD a)), some (.pu (bxD b))] = .ok (bxD (a.around [b])) := e
  show fnK (b__is_within [some (.pu (bxD a)), some (.pu (bxD b))]) = _
  unfold b__is_within
  rw [rtO_ap, fnK_rtK, bin2_ap, e0, varD_succ, varD_zero, k2_ok]
  have : eqD (bxD (a.around [b])) (bxD b) = .ok (.bool (PyData.eqv (bxD (a.around [b])) (bxD b))) := if_pos rfl
  rw [this, eqv_bx]
  unfold Bx.around wiB
  simp only [List.map_cons, List.map_nil, List.foldl_cons, List.foldl_nil]
  rw [decide_eq_decide.mpr (mn_eq a.xl b.xl), decide_eq_decide.mpr (mx_eq a.xh b.xh), decide_eq_decide.mpr (mn_eq a.yl b.yl), decide_eq_decide.mpr (mx_eq a.yh b.yh)]
/-! ### the numbers of the leaves -/
def Tr.sz : Tr → Nat
  | .leaf _ => 1
  | .fork _ l r => l.sz + r.sz + 1
theorem Tr.lv_sz : ∀ t : Tr, t.lv.length ≤ t.sz
  | .leaf _ => Nat.le_refl _
  | .fork _ l r => by
    have := l.lv_sz
    have := r.lv_sz
    unfold Tr.lv Tr.sz
    rw [List.length_append]; omega
theorem isLeaf_t {i : Nat} {ρ : EnvS} {k : Int} (h : varD i ρ = .ok (treD (.leaf k))) : asF (bin2 eqD (bin2 ixD (varD i) (cD (.int 0))) (cD (.str "leaf"))) ρ = .ok true := by
  rw [asF_ap, bin2_ap, bin2_ap, h, cD_ap, cD_ap, k2_ok, show ixD (treD (.leaf k)) (.int 0) = .ok (.str "leaf") from rfl, k2_ok, eqD_str okLeaf okLeaf, asB_ok, beq_self_eq_true]
theorem fork_leaf : ((Str.ofString "fork") == (Str.ofString "leaf")) = false := by decide +kernel
theorem isLeaf_f {i : Nat} {ρ : EnvS} {b : Bx} {l r : Tr} (h : varD i ρ = .ok (treD (.fork b l r))) : asF (bin2 eqD (bin2 ixD (varD i) (cD (.int 0))) (cD (.str "leaf"))) ρ = .ok false := by
  rw [asF_ap, bin2_ap, bin2_ap, h, cD_ap, cD_ap, k2_ok, show ixD (treD (.fork b l r)) (.int 0) = .ok (.str "fork") from rfl, k2_ok, eqD_str okFork okLeaf, asB_ok]
  exact congrArg R.ok fork_leaf
noncomputable def NT : EnvS → R Bool := (asF (bin2 gtD (callF (fun ds => .ok (.int ds.length)) (ownD 2)) (cD (.int 0))))
noncomputable def NB : EnvS → Out := (sqO (popS 2 3)
  (ifO (asF (bin2 eqD (bin2 ixD (varD 3) (cD (.int 0))) (cD (.str "leaf"))))
  (appO 1 (bin2 ixD (varD 3) (cD (.int 1))))
  (extO 2 (newD (consA (bin2 ixD (varD 3) (cD (.int 3))) (consA (bin2 ixD (varD 3) (cD (.int 2))) nilA))))))
def tz (ts : List Tr) : Nat := (ts.map Tr.sz).sum
theorem tz_snoc (us : List Tr) (t : Tr) : tz (us ++ [t]) = tz us + t.sz := by
  unfold tz
  rw [List.map_append, List.sum_append]
  simp
theorem Tr.sz_pos (t : Tr) : 1 ≤ t.sz := by cases t <;> (unfold Tr.sz; omega)
theorem tz_len : ∀ ws : List Tr, ws.length ≤ tz ws
  | [] => Nat.le_refl _
  | p :: ws => by
    have := tz_len ws
    have := p.sz_pos
    show ws.length + 1 ≤ p.sz + tz ws
    omega
theorem popS_2 {V F z3 : Option Sl} {us : List D} {a : D} : popS 2 3 [V, F, some (.ow (us ++ [a])), z3] = .nx [V, F, some (.ow us), some (.pu a)] := by
  unfold popS
  simp only [List.getElem?_cons_succ, List.getElem?_cons_zero, List.length_append, List.length_singleton, Nat.add_sub_cancel, List.getElem?_append_right (Nat.le_refl _), Nat.sub_self, List.dropLast_concat]
  rfl
theorem nums_loop {V : Option Sl} : ∀ (m : Nat) (ts : List Tr) (fs : List Int) (z3 : Option Sl), tz ts ≤ m → fs.length + m ≤ 1000000 →
    ∃ n w3, whO NT NB n [V, some (.ow (fs.map .int)), some (.ow (ts.map treD)), z3] = .nx [V, some (.ow ((fs ++ ts.reverse.flatMap Tr.lv).map .int)), some (.ow []), w3] := by
  intro m
  induction m using Nat.strongRecOn with
  | _ m ih =>
  intro ts fs z3 hm hf
  rcases List.eq_nil_or_concat ts with e | ⟨us, t, e⟩
  · subst e
    refine ⟨1, z3, (wh_stop rfl).trans ?_⟩
    rw [List.reverse_nil, List.flatMap_nil, List.append_nil]
    rfl
  rw [List.concat_eq_append] at e
  subst e
  rw [tz_snoc] at hm
  have hpos := t.sz_pos
  have hul := tz_len us
  have hc : NT [V, some (.ow (fs.map .int)), some (.ow ((us ++ [t]).map treD)), z3] = .ok true := by
    show R.ok (decide ((0 : Int) < (((us ++ [t]).map treD).length : Int))) = _
    rw [List.length_map, List.length_append, List.length_singleton, decide_eq_true (by omega)]
  have hpop : popS 2 3 [V, some (.ow (fs.map .int)), some (.ow ((us ++ [t]).map treD)), z3] = .nx [V, some (.ow (fs.map .int)), some (.ow (us.map treD)), some (.pu (treD t))] := by
    rw [List.map_append]
    exact popS_2
  cases t with
  | leaf k =>
    have hb : NB [V, some (.ow (fs.map .int)), some (.ow ((us ++ [Tr.leaf k]).map treD)), z3] = .nx [V, some (.ow ((fs ++ [k]).map .int)), some (.ow (us.map treD)), some (.pu (treD (.leaf k)))] := by
      unfold NB
      rw [sqO_ap, hpop, Out.nx_seq, ifO_ap, isLeaf_t (k := k) rfl, ifK_t, appO_ap]
      show appK 1 (some (some (.ow (fs.map .int)))) (.ok (.int k)) _ = _
      rw [appK_ok (by unfold lineOk; rw [List.length_map]; exact decide_eq_true (by omega)), List.map_append]
      rfl
    obtain ⟨n, w3, e⟩ := ih (tz us) (by omega) us (fs ++ [k]) (some (.pu (treD (.leaf k)))) (Nat.le_refl _) (by rw [List.length_append, List.length_singleton]; omega)
    refine ⟨n + 1, w3, (wh_go hc hb).trans (e.trans ?_)⟩
    rw [List.reverse_append, List.reverse_singleton, List.singleton_append, List.flatMap_cons, List.append_assoc]
    rfl
  | fork b l r =>
    unfold Tr.sz at hm hpos
    have hb : NB [V, some (.ow (fs.map .int)), some (.ow ((us ++ [Tr.fork b l r]).map treD)), z3] = .nx [V, some (.ow (fs.map .int)), some (.ow ((us ++ [r] ++ [l]).map treD)), some (.pu (treD (.fork b l r)))] := by
      unfold NB
      rw [sqO_ap, hpop, Out.nx_seq, ifO_ap, isLeaf_f (b := b) (l := l) (r := r) rfl, ifK_f]
      unfold extO
      rw [show ([V, some (.ow (fs.map .int)), some (.ow (us.map treD)), some (.pu (treD (.fork b l r)))] : EnvS)[2]? = some (some (.ow (us.map treD))) from rfl]
      dsimp only
      rw [show newD (consA (bin2 ixD (varD 3) (cD (.int 3))) (consA (bin2 ixD (varD 3) (cD (.int 2))) nilA)) [V, some (.ow (fs.map .int)), some (.ow (us.map treD)), some (.pu (treD (.fork b l r)))] = .ok [treD r, treD l] from rfl, R.ok_out, if_pos (by unfold lineOk; rw [List.length_map]; exact decide_eq_true (by simp only [List.length_cons, List.length_nil]; omega))]
      rw [List.map_append, List.map_append, List.append_assoc]
      rfl
    obtain ⟨n, w3, e⟩ := ih (tz (us ++ [r] ++ [l])) (by rw [tz_snoc, tz_snoc]; omega) (us ++ [r] ++ [l]) fs (some (.pu (treD (.fork b l r)))) (Nat.le_refl _) (by rw [tz_snoc, tz_snoc]; omega)
    refine ⟨n + 1, w3, (wh_go hc hb).trans (e.trans ?_)⟩
    rw [List.reverse_append, List.reverse_append, List.reverse_append, List.reverse_singleton, List.reverse_singleton, List.reverse_singleton, List.singleton_append, List.singleton_append, List.singleton_append, List.flatMap_cons, List.flatMap_cons, List.flatMap_cons]
    rw [show (Tr.fork b l r).lv = l.lv ++ r.lv from rfl, List.append_assoc]
theorem numbers_eq {t : Tr} (h : t.sz ≤ 100000) : v_numbers_in [treD t] = .ok (.list (t.lv.map .int)) := by
  obtain ⟨n, w3, e⟩ := nums_loop (V := some (.pu (treD t))) t.sz [t] [] none (by unfold tz; simp) (by simp; omega)
  show fnK (b_numbers_in [some (.pu (treD t)), none, none, none]) = _
  unfold b_numbers_in
  have h0 : parNO 1 2 (newD nilA) (newD (consA (varD 0) nilA)) [some (.pu (treD t)), none, none, none] = .nx [some (.pu (treD t)), some (.ow (([] : List Int).map .int)), some (.ow ([t].map treD)), none] := rfl
  rw [sqO_ap, h0, Out.nx_seq, sqO_ap]
  have e2 := whX_eq n e (by intro h; cases h)
  unfold NT NB at e2
  rw [e2, Out.nx_seq]
  show R.ok (PyData.list (([] ++ [t].reverse.flatMap Tr.lv).map .int)) = _
  rw [List.nil_append, List.reverse_singleton, List.flatMap_cons, List.flatMap_nil, List.append_nil]
end Mt

namespace Mt
open PySem PySem.Spec PyProof.Rows L2 TD Dn
/-! ### the first fork whose box is too small -/
def bAt (bs : List Bx) (k : Int) : Bx := bs.getD k.toNat ⟨0, 0, 0, 0⟩
def fkT (bs : List Bx) : Tr → List Int → Option (List Int)
  | .leaf _, _ => none
  | .fork b l r, pl => if ((l.lv ++ r.lv).all fun k => wiB (bAt bs k) b) = true then (match fkT bs l (pl ++ [0]) with | some p => some p | none => fkT bs r (pl ++ [1])) else some pl
def optD : Option (List Int) → D
  | none => .none
  | some p => .tuple (p.map .int)
theorem fkT_some {bs : List Bx} {b : Bx} {l r : Tr} {pl : List Int} : fkT bs (.fork b l r) pl = if ((l.lv ++ r.lv).all fun k => wiB (bAt bs k) b) = true then (match fkT bs l (pl ++ [0]) with | some p => some p | none => fkT bs r (pl ++ [1])) else some pl := rfl
theorem allK_map (bs : List Bool) : allK (bs.map .bool) = .ok (.bool (bs.all id)) := by
  unfold allK
  rw [boolsOf_map]
theorem bAt_get {bs : List Bx} {k : Int} (h0 : 0 ≤ k) (h1 : k < bs.length) : ixD (.tuple (bs.map bxD)) (.int k) = .ok (bxD (bAt bs k)) := by
  obtain ⟨n, rfl⟩ := Int.eq_ofNat_of_zero_le h0
  have hn : n < bs.length := by omega
  refine ixD_tuple_nat ?_
  unfold bAt
  rw [List.getElem?_map, List.getElem?_eq_getElem hn, Int.toNat_natCast, List.getD_eq_getElem?_getD, List.getElem?_eq_getElem hn]
  rfl
theorem bAt_mem {bs : List Bx} {k : Int} (h0 : 0 ≤ k) (h1 : k < bs.length) : bAt bs k ∈ bs := by
  obtain ⟨n, rfl⟩ := Int.eq_ofNat_of_zero_le h0
  have hn : n < bs.length := by omega
  unfold bAt
  rw [Int.toNat_natCast, List.getD_eq_getElem?_getD, List.getElem?_eq_getElem hn]
  exact List.getElem_mem hn
noncomputable def FB (vn vw self : List D → R D) : EnvS → Out :=
  (sqO (ifO (asF (bin2 eqD (bin2 ixD (varD 1) (cD (.int 0))) (cD (.str "leaf"))))
  (rtO (cD .none))
  nxO)
  (sqO (ifO (notB (asF (callF allK (lcF (seqF (callU 1 vn (consA (varD 1) nilA))) (nmG 4) yesB (callU 2 vw (consA (bin2 ixD (varD 0) (varD 4)) (consA (bin2 ixD (varD 1) (cD (.int 1))) nilA))) [4]))))
  (rtO (varD 2))
  nxO)
  (sqO (stO 3 (callU 3 self (consA (varD 0) (consA (bin2 ixD (varD 1) (cD (.int 2))) (consA (bin2 addD (varD 2) (tupD (consA (cD (.int 0)) nilA))) nilA)))))
  (rtO (ifD (asF (bin2 notND (varD 3) (cD .none))) (varD 3) (callU 3 self (consA (varD 0) (consA (bin2 ixD (varD 1) (cD (.int 3))) (consA (bin2 addD (varD 2) (tupD (consA (cD (.int 1)) nilA))) nilA)))))))))
def Rng (bs : List Bx) (t : Tr) : Prop := ∀ k ∈ t.lv, 0 ≤ k ∧ k < bs.length
theorem fork_gen {bs : List Bx} (hbs : ∀ b ∈ bs, b.Vd) {vn vw : List D → R D} {W : Nat → List D → R D} (hW : ∀ f ds, W (f + 1) ds = fnR 5 (FB vn vw (W f)) ds)
    (hw : ∀ a b : Bx, a.Vd → b.Vd → vw [bxD a, bxD b] = .ok (.bool (wiB a b))) (hnm : ∀ t : Tr, t.ht < 64 → t.sz ≤ 100000 → vn [treD t] = .ok (.list (t.lv.map .int))) :
    ∀ (t : Tr) (f : Nat) (pl : List Int), t.ht < f → t.ht < 64 → t.Vd → t.sz ≤ 100000 → Rng bs t → pl.length + t.ht ≤ 1000 → W f [.tuple (bs.map bxD), treD t, .tuple (pl.map .int)] = .ok (optD (fkT bs t pl)) := by
  intro t
  induction t with
  | leaf k =>
    intro f pl hf _ _ _ _ _
    obtain ⟨f, rfl⟩ : ∃ g, f = g + 1 := ⟨f - 1, by omega⟩
    rw [hW]
    show fnK (FB vn vw (W f) [some (.pu (.tuple (bs.map bxD))), some (.pu (treD (.leaf k))), some (.pu (.tuple (pl.map .int))), none, none]) = _
    unfold FB
    rw [sqO_ap, ifO_ap, isLeaf_t (k := k) rfl, ifK_t]
    rfl
  | fork b l r ihl ihr =>
    intro f pl hf h64 hv hs hr hp
    obtain ⟨f, rfl⟩ : ∃ g, f = g + 1 := ⟨f - 1, by omega⟩
    have hnum := hnm (.fork b l r) h64 hs
    have hlv := (Tr.fork b l r).lv_sz
    have hlen : lineOk ((Tr.fork b l r).lv.map PyData.int).length = true := by unfold lineOk; rw [List.length_map]; exact decide_eq_true (by omega)
    obtain ⟨hvb, hvl, hvr⟩ := hv
    have hrl : Rng bs l := fun k hk => hr k (List.mem_append_left _ hk)
    have hrr : Rng bs r := fun k hk => hr k (List.mem_append_right _ hk)
    unfold Tr.ht at hf h64 hp
    unfold Tr.sz at hs
    have e1 := ihl f (pl ++ [0]) (by omega) (by omega) hvl (by omega) hrl (by rw [List.length_append, List.length_singleton]; omega)
    have e2 := ihr f (pl ++ [1]) (by omega) (by omega) hvr (by omega) hrr (by rw [List.length_append, List.length_singleton]; omega)
    have hall : asF (callF allK (lcF (seqF (callU 1 vn (consA (varD 1) nilA))) (nmG 4) yesB (callU 2 vw (consA (bin2 ixD (varD 0) (varD 4)) (consA (bin2 ixD (varD 1) (cD (.int 1))) nilA))) [4])) [some (.pu (.tuple (bs.map bxD))), some (.pu (treD (.fork b l r))), some (.pu (.tuple (pl.map .int))), none, none] = .ok ((l.lv ++ r.lv).all fun k => wiB (bAt bs k) b) := by
      rw [asF_ap, callF_ap, lcF_ap, seqF_ap, show callU 1 vn (consA (varD 1) nilA) [some (.pu (.tuple (bs.map bxD))), some (.pu (treD (.fork b l r))), some (.pu (.tuple (pl.map .int))), none, none] = .ok (.list ((Tr.fork b l r).lv.map .int)) from hnum, sqK_l, lcK_ok hlen]
      rw [comp_map (g := PyData.int) (h := fun k => .bool (wiB (bAt bs k) b)) (Tr.fork b l r).lv (fun k hk => by
        obtain ⟨h0, h1⟩ := hr k hk
        simp only [wipeS_cons, wipeS_nil, List.set, callU_ap, consA_ap, bin2_ap, varD_succ, varD_zero, cD_ap, k2_ok, bAt_get h0 h1, nilA_ap]
        rw [show ixD (treD (.fork b l r)) (.int 1) = .ok (bxD b) from rfl, cnK_ok, cnK_ok, cuK_2, hw _ _ (hbs _ (bAt_mem h0 h1)) hvb])]
      rw [R.ok_bind, show ((Tr.fork b l r).lv.map fun k => PyData.bool (wiB (bAt bs k) b)) = ((Tr.fork b l r).lv.map fun k => wiB (bAt bs k) b).map .bool by rw [List.map_map]; rfl, allK_map, asB_ok, List.all_map]
      rfl
    have a0 : ∀ z : Int, bin2 addD (varD 2) (tupD (consA (cD (.int z)) nilA)) [some (.pu (.tuple (bs.map bxD))), some (.pu (treD (.fork b l r))), some (.pu (.tuple (pl.map .int))), none, none] = .ok (.tuple ((pl ++ [z]).map .int)) := fun z => by
      rw [bin2_ap, varD_succ, varD_succ, varD_zero, tupD_ap, consA_ap, cD_ap, nilA_ap, cnK_ok, tuK_1, k2_ok, List.map_append]
      exact if_pos (by unfold lineOk; rw [List.length_map]; exact decide_eq_true (by simp only [List.length_singleton]; omega))
    have a1 : ∀ (z : Int) (Z : Option Sl), bin2 addD (varD 2) (tupD (consA (cD (.int z)) nilA)) [some (.pu (.tuple (bs.map bxD))), some (.pu (treD (.fork b l r))), some (.pu (.tuple (pl.map .int))), Z, none] = .ok (.tuple ((pl ++ [z]).map .int)) := fun z Z => a0 z
    rw [hW, fkT_some]
    show fnK (FB vn vw (W f) [some (.pu (.tuple (bs.map bxD))), some (.pu (treD (.fork b l r))), some (.pu (.tuple (pl.map .int))), none, none]) = _
    unfold FB
    rw [sqO_ap, ifO_ap, isLeaf_f (b := b) (l := l) (r := r) rfl, ifK_f, nxO_ap, Out.nx_seq, sqO_ap, ifO_ap, notB_ap, hall, notK_ok]
    cases hc : ((l.lv ++ r.lv).all fun k => wiB (bAt bs k) b) with
    | false => rfl
    | true =>
      rw [Bool.not_true, ifK_f, nxO_ap, Out.nx_seq, if_pos rfl]
      have c1 : callU 3 (W f) (consA (varD 0) (consA (bin2 ixD (varD 1) (cD (.int 2))) (consA (bin2 addD (varD 2) (tupD (consA (cD (.int 0)) nilA))) nilA))) [some (.pu (.tuple (bs.map bxD))), some (.pu (treD (.fork b l r))), some (.pu (.tuple (pl.map .int))), none, none] = .ok (optD (fkT bs l (pl ++ [0]))) := by
        rw [callU_ap, consA_ap, consA_ap, consA_ap, a0, nilA_ap, cnK_ok, bin2_ap, varD_zero, varD_succ, varD_zero, cD_ap, k2_ok, show ixD (treD (.fork b l r)) (.int 2) = .ok (treD l) from rfl, cnK_ok, cnK_ok, cuK_3, e1]
      have c2 : ∀ Z : Option Sl, callU 3 (W f) (consA (varD 0) (consA (bin2 ixD (varD 1) (cD (.int 3))) (consA (bin2 addD (varD 2) (tupD (consA (cD (.int 1)) nilA))) nilA))) [some (.pu (.tuple (bs.map bxD))), some (.pu (treD (.fork b l r))), some (.pu (.tuple (pl.map .int))), Z, none] = .ok (optD (fkT bs r (pl ++ [1]))) := fun Z => by
        rw [callU_ap, consA_ap, consA_ap, consA_ap, a1, nilA_ap, cnK_ok, bin2_ap, varD_zero, varD_succ, varD_zero, cD_ap, k2_ok, show ixD (treD (.fork b l r)) (.int 3) = .ok (treD r) from rfl, cnK_ok, cnK_ok, cuK_3, e2]
      refine (congrArg fnK (sq_nx (st_nx c1))).trans ?_
      simp only [List.set]
      rw [rtO_ap, fnK_rtK, ifD_ap]
      cases hf1 : fkT bs l (pl ++ [0]) with
      | none =>
        rw [show asF (bin2 notND (varD 3) (cD .none)) [some (.pu (.tuple (bs.map bxD))), some (.pu (treD (.fork b l r))), some (.pu (.tuple (pl.map .int))), some (.pu (optD none)), none] = .ok false from rfl, ifDK_f, c2]
      | some p => rfl
theorem fork_fault_eq {bs : List Bx} (hbs : ∀ b ∈ bs, b.Vd) {t : Tr} (h64 : t.ht < 64) (hv : t.Vd) (hs : t.sz ≤ 100000) (hr : Rng bs t) : v__fork_fault [.tuple (bs.map bxD), treD t, .tuple []] = .ok (optD (fkT bs t [])) :=
  fork_gen hbs (W := w__fork_fault) (fun f ds => rfl) (fun a b ha hb => within_eq ha hb) (fun t _ hs => numbers_eq hs) t 64 [] h64 h64 hv hs hr (by simp only [List.length_nil]; omega)
/-! ### the whole fault -/
def rgI (n : Nat) : List Int := (List.range n).map fun j => ((0 : Int) + (j : Nat))
theorem rngD_eq (n : Nat) : rngD 0 n = (rgI n).map .int := by unfold rngD rgI; rw [List.map_map]; rfl
theorem lay_ints : ∀ l : List Int, PyData.canLayAll0 (l.map .int) = true ∧ PyData.depthAll (l.map .int) ≤ 1
  | [] => ⟨rfl, by rw [List.map_nil, PyData.depthAll]; omega⟩
  | a :: l => by
    obtain ⟨h1, h2⟩ := lay_ints l
    have hd : PyData.depth (.int a) ≤ 1 := by rw [PyData.depth]; omega
    exact ⟨by rw [List.map_cons, PyData.canLayAll0, h1]; rfl, by rw [List.map_cons, PyData.depthAll]; omega⟩
theorem okInts (l : List Int) : okD (.list (l.map .int)) = true := by
  obtain ⟨h1, h2⟩ := lay_ints l
  show (PyData.canLay0 (.list (l.map .int)) && decide (PyData.depth (.list (l.map .int)) ≤ 64)) = true
  rw [PyData.canLay0, PyData.depth, h1, decide_eq_true (by omega)]
  rfl
theorem okIntsT (l : List Int) : okD (.tuple (l.map .int)) = true := by
  obtain ⟨h1, h2⟩ := lay_ints l
  show (PyData.canLay0 (.tuple (l.map .int)) && decide (PyData.depth (.tuple (l.map .int)) ≤ 64)) = true
  rw [PyData.canLay0, PyData.depth, h1, decide_eq_true (by omega)]
  rfl
theorem eqvAll_ints : ∀ a b : List Int, PyData.eqvAll (a.map .int) (b.map .int) = decide (a = b)
  | [], [] => by rw [List.map_nil, PyData.eqvAll]; rfl
  | [], y :: b => by rw [List.map_nil, List.map_cons, PyData.eqvAll]; simp
  | x :: a, [] => by rw [List.map_nil, List.map_cons, PyData.eqvAll]; simp
  | x :: a, y :: b => by
    rw [List.map_cons, List.map_cons, PyData.eqvAll, eqv_int, eqvAll_ints a b]
    by_cases h : x = y
    · subst h; simp
    · simp [h]
theorem eqv_ints (a b : List Int) : PyData.eqv (.list (a.map .int)) (.list (b.map .int)) = decide (a = b) := by
  rw [PyData.eqv, eqvAll_ints]
theorem neD_ints (a b : List Int) : neD (.list (a.map .int)) (.list (b.map .int)) = .ok (.bool (!decide (a = b))) := by
  unfold neD; rw [okInts, okInts, eqv_ints]; rfl
theorem sort_ints (l : List Int) : sortK [.list (l.map .int)] = sortK [.list (l.map .int)] := rfl
def endD : Option (List Int) → D
  | none => .none
  | some p => .tuple [.str "box", .tuple (p.map .int)]
noncomputable def dueT (bs : List Bx) (t : Tr) : D :=
  if sortI t.lv = rgI bs.length then endD (fkT bs t []) else .tuple [.str "leaves"]
theorem perm_of_sort {l m : List Int} (h : sortI l = m) : l.Perm m := by
  rw [← h]
  exact (List.mergeSort_perm l intLe).symm
theorem rgI_mem {n : Nat} {k : Int} (h : k ∈ rgI n) : 0 ≤ k ∧ k < n := by
  unfold rgI at h
  obtain ⟨j, hj, rfl⟩ := List.mem_map.mp h
  have := List.mem_range.mp hj
  omega
theorem rng_of_sort {bs : List Bx} {t : Tr} (h : sortI t.lv = rgI bs.length) : Rng bs t := fun k hk => rgI_mem ((perm_of_sort h).mem_iff.mp hk)
section
variable {bs : List Bx} {d : D} {t : Tr}
theorem sort_part {ρ : EnvS} {f : EnvS → R D} {l : List Int} {n : Nat} {ds : List D} (h : f ρ = .ok (.list (l.map .int))) (h0 : varD 0 ρ = .ok (.tuple ds)) (hl : ds.length = n) (hn : n ≤ 1000) :
    asF (bin2 neD (lstF (callN sortK (asLF f))) (lstF (rgNew (callF lenK (consA (varD 0) nilA))))) ρ = .ok (!decide (sortI l = rgI n)) := by
  have e1 : lstF (callN sortK (asLF f)) ρ = .ok (.list ((sortI l).map .int)) := by
    rw [lstF_ap, callN_ap, asLF_ap, h, alK_ok]
    show lsK (sortK (l.map .int)) = _
    unfold sortK
    rw [intsOf_map]
    rfl
  have e2 : lstF (rgNew (callF lenK (consA (varD 0) nilA))) ρ = .ok (.list ((rgI n).map .int)) := by
    rw [lstF_ap]
    unfold rgNew
    rw [callF_ap, consA_ap, h0, nilA_ap, cnK_ok, R.ok_bind, lenK_tuple, R.ok_bind]
    dsimp only
    rw [hl, if_pos (decide_eq_true (by omega)), Int.toNat_natCast, rngD_eq, lsK_ok]
  rw [asF_ap, bin2_ap, e1, e2, k2_ok, neD_ints, asB_ok]
theorem end_part {ρ : EnvS} {o : Option (List Int)} (h : varD 2 ρ = .ok (optD o)) : fnK (rtO (ifD (asF (bin2 notND (varD 2) (cD .none))) (tupD (consA (cD (.str "box")) (consA (varD 2) nilA))) (cD .none)) ρ) = .ok (endD o) := by
  rw [rtO_ap, fnK_rtK, ifD_ap, asF_ap, bin2_ap, h, cD_ap, k2_ok]
  cases o with
  | none => rfl
  | some p =>
    rw [show notND (optD (some p)) .none = .ok (.bool true) from rfl, asB_ok, ifDK_t, tupD_ap, consA_ap, consA_ap, h]
    rfl
end
end Mt

namespace Mt
open PySem PySem.Spec PyProof.Rows L2 TD Dn
/-! ### events -/
def rjD (k : Ky) : D := .tuple [N k.q, .int (k.i : Nat)]
def Bj (k : Ky) : Prop := Bd 300 k.q ∧ k.w = 0
@[simp] theorem ixJ0 (k : Ky) : ixD (rjD k) (.int 0) = .ok (N k.q) := rfl
@[simp] theorem ixJ1 (k : Ky) : ixD (rjD k) (.int 1) = .ok (.int (k.i : Nat)) := rfl
theorem ahead_j {a b : Ky} (hA : Bj a) (hB : Bj b) : v__is_ahead [rjD a, rjD b] = .ok (.bool (ltK a b)) := by
  obtain ⟨ha, wa⟩ := hA
  obtain ⟨hb, wb⟩ := hB
  show fnK (b__is_ahead [some (.pu (rjD a)), some (.pu (rjD b)), none]) = _
  unfold b__is_ahead
  simp only [sqO_ap, stO_ap, callU_ap, consA_ap, bin2_ap, varD_zero, varD_succ, cD_ap, k2_ok, ixJ0, ixJ1, nilA_ap, cnK_ok, cuK_2, order_eq ha hb (by omega), stK_ok, List.set, Out.nx_seq, rtO_ap, orV_ap, ltD_int, asB_ok]
  by_cases h1 : a.q < b.q
  · have : decide (sgI (ordI a.q b.q) < 0) = true := decide_eq_true ((sg_neg _).mpr ((ord_neg _ _).mpr h1))
    rw [this, orVK_t, rtK_ok, fnK_rt]
    congr 2
    exact (decide_eq_true (show a.lt b from .inl h1)).symm
  · have : decide (sgI (ordI a.q b.q) < 0) = false := decide_eq_false fun h => h1 ((ord_neg _ _).mp ((sg_neg _).mp h))
    rw [this, orVK_f]
    simp only [andV_ap, bin2_ap, varD_zero, varD_succ, cD_ap, k2_ok, eqD_int, asB_ok]
    by_cases h2 : a.q = b.q
    · have : sgI (ordI a.q b.q) = 0 := by rw [(ord_zero _ _).mpr h2]; rfl
      rw [decide_eq_true this, andVK_t]
      simp only [bin2_ap, varD_zero, varD_succ, cD_ap, k2_ok, ixJ1, ltD_int, rtK_ok, fnK_rt]
      congr 2
      unfold ltK
      rw [decide_eq_decide]
      unfold Ky.lt
      constructor
      · intro h; exact .inr ⟨h2, by omega⟩
      · rintro (h | ⟨_, h⟩)
        · exact absurd h h1
        · omega
    · have : ¬ sgI (ordI a.q b.q) = 0 := fun h => by
        have h3 : ordI a.q b.q = 0 := by
          have := sg_neg (ordI a.q b.q)
          have := sg_pos (ordI a.q b.q)
          omega
        exact h2 ((ord_zero _ _).mp h3)
      rw [decide_eq_false this, andVK_f, rtK_ok, fnK_rt]
      refine congrArg (fun b => R.ok (PyData.bool b)) (Eq.symm (decide_eq_false ?_))
      rintro (h | ⟨h, _⟩)
      · exact h1 h
      · exact h2 h
/-! ### insertion -/
def BdJ (l : List Ky) : Prop := ∀ k ∈ l, Bj k
theorem place_loopJ {R0 : Option Sl} {l : List Ky} {r : Ky} (hl : BdJ l) (hr : Bj r) : ∀ p0 : Nat, p0 ≤ l.length → ∃ (p n : Nat), p ≤ p0 ∧ (∀ x, 0 < p → l[p - 1]? = some x → ¬ r.lt x) ∧ (∀ j x, p ≤ j → j < p0 → l[j]? = some x → r.lt x) ∧
    whO WC (augO 3 subD (cD (.int 1))) n [R0, some (.pu (.list (l.map rjD))), some (.pu (rjD r)), some (.pu (.int (p0 : Nat)))] = .nx [R0, some (.pu (.list (l.map rjD))), some (.pu (rjD r)), some (.pu (.int (p : Nat)))] := by
  intro p0
  induction p0 with
  | zero =>
    intro _
    refine ⟨0, 1, Nat.le_refl _, fun x h => absurd h (by omega), fun j x _ h => absurd h (by omega), ?_⟩
    rw [whO, show WC [R0, some (.pu (.list (l.map rjD))), some (.pu (rjD r)), some (.pu (.int (0 : Nat)))] = .ok false from rfl, R.ok_out, if_neg (by decide)]
  | succ p0 ih =>
    intro hp
    have hx : l[p0]? = some (l[p0]'(by omega)) := List.getElem?_eq_getElem _
    generalize hxx : l[p0]'(by omega) = x at hx
    have hb : Bj x := hl x (by rw [← hxx]; exact List.getElem_mem _)
    have hix : ixD (.list (l.map rjD)) (.int (p0 : Nat)) = .ok (rjD x) := ixD_list_nat (by rw [List.getElem?_map, hx]; rfl)
    have hpos : decide ((0 : Int) < ((p0 + 1 : Nat) : Int)) = true := decide_eq_true (by omega)
    have hsub : ((p0 + 1 : Nat) : Int) - 1 = (p0 : Nat) := by omega
    have hc : WC [R0, some (.pu (.list (l.map rjD))), some (.pu (rjD r)), some (.pu (.int ((p0 + 1 : Nat) : Int)))] = .ok (ltK r x) := by
      unfold WC
      simp only [andB_ap, asF_ap, bin2_ap, varD_succ, varD_zero, cD_ap, k2_ok, gtD_int, hpos, asB_ok, andK_t, callU_ap, consA_ap, subD_int, hsub, hix, nilA_ap, cnK_ok, cuK_2, ahead_j hr hb]
    by_cases h : r.lt x
    · obtain ⟨p, n, h1, h2, h3, e⟩ := ih (by omega)
      refine ⟨p, n + 1, by omega, h2, fun j y hj1 hj2 hy => ?_, ?_⟩
      · by_cases e : j = p0
        · subst e; rw [hx] at hy; cases hy; exact h
        · exact h3 j y hj1 (by omega) hy
      · rw [whO, hc, R.ok_out, if_pos (show ltK r x = true from decide_eq_true h)]
        have ea : augO 3 subD (cD (.int 1)) [R0, some (.pu (.list (l.map rjD))), some (.pu (rjD r)), some (.pu (.int ((p0 + 1 : Nat) : Int)))] = .nx [R0, some (.pu (.list (l.map rjD))), some (.pu (rjD r)), some (.pu (.int (p0 : Nat)))] := by
          rw [← hsub]; rfl
        rw [ea]
        exact e
    · refine ⟨p0 + 1, 1, Nat.le_refl _, fun y _ hy => ?_, fun j y h1 h2 => absurd h2 (by omega), ?_⟩
      · rw [Nat.add_sub_cancel, hx] at hy; cases hy; exact h
      · rw [whO, hc, R.ok_out, if_neg (by rw [show ltK r x = false from decide_eq_false h]; decide)]
theorem ins_stepJ {R0 z3 : Option Sl} {l : List Ky} {r : Ky} (hl : BdJ l) (hr : Bj r) (hs : SrtK l) (hlen : l.length ≤ 1000) :
    ∃ (l' : List Ky) (w3 : Option Sl), l'.Perm (r :: l) ∧ SrtK l' ∧ BO [R0, some (.pu (.list (l.map rjD))), some (.pu (rjD r)), z3] = .nx [R0, some (.pu (.list (l'.map rjD))), some (.pu (rjD r)), w3] := by
  obtain ⟨p, n, h1, h2, h3, e⟩ := place_loopJ (R0 := R0) hl hr l.length (Nat.le_refl _)
  refine ⟨l.take p ++ [r] ++ l.drop p, some (.pu (.int (p : Nat))), ins_perm l r p, ins_sorted hs h1 (fun x hx h0 => ?_) (fun j x hj hx => h3 j x hj (List.getElem?_eq_some_iff.mp hx).1 hx), ?_⟩
  · rcases hx with hx | hx
    · omega
    · exact h2 x h0 hx
  unfold BO
  refine (sq_nx (ρ1 := [R0, some (.pu (.list (l.map rjD))), some (.pu (rjD r)), some (.pu (.int (l.length : Nat)))]) ?_).trans ?_
  · refine (st_nx (d := .int (l.length : Nat)) ?_).trans rfl
    simp only [callF_ap, consA_ap, varD_succ, varD_zero, nilA_ap, cnK_ok, R.ok_bind, lenK_list, List.length_map]
  refine (sq_nx (whX_eq n e (by intro h; cases h))).trans ?_
  refine (st_nx (d := .list ((l.take p ++ [r] ++ l.drop p).map rjD)) ?_).trans rfl
  have hp2 : p ≤ (l.map rjD).length := by rw [List.length_map]; exact h1
  have k1 : caK (.ok ((l.map rjD).take p)) (.ok [rjD r]) = .ok ((l.map rjD).take p ++ [rjD r]) := if_pos (by unfold lineOk; refine decide_eq_true ?_; rw [List.length_take, List.length_map, List.length_singleton]; omega)
  have k2' : caK (.ok ((l.map rjD).take p ++ [rjD r])) (.ok ((l.map rjD).drop p)) = .ok ((l.map rjD).take p ++ [rjD r] ++ (l.map rjD).drop p) := if_pos (by unfold lineOk; refine decide_eq_true ?_; rw [List.length_append, List.length_take, List.length_map, List.length_singleton, List.length_drop, List.length_map]; omega)
  simp only [lstF_ap, catL_ap, asLF_ap, slcG_ap, varD_succ, varD_zero, noP_ap, someP_ap, smK_ok, slK_l, alK_ok, cut_take, cut_drop _ hp2, newD_ap, consA_ap, nilA_ap, cnK_ok]
  rw [show nwK (.ok [rjD r]) = .ok [rjD r] from rfl, k1, k2', lsK_ok, List.map_append, List.map_append, List.map_take, List.map_drop]
  rfl
theorem ord_loopJ {R0 : Option Sl} : ∀ (ks l : List Ky) (z2 z3 : Option Sl), BdJ ks → BdJ l → SrtK l → l.length + ks.length ≤ 1000 →
    ∃ (l' : List Ky) (w2 w3 : Option Sl), l'.Perm (ks ++ l) ∧ SrtK l' ∧ forO (nmG 2) BO (ks.map rjD) [R0, some (.pu (.list (l.map rjD))), z2, z3] = .nx [R0, some (.pu (.list (l'.map rjD))), w2, w3] := by
  intro ks
  induction ks with
  | nil => exact fun l z2 z3 _ _ hs _ => ⟨l, z2, z3, List.Perm.refl _, hs, rfl⟩
  | cons k ks ih =>
    intro l z2 z3 hk hl hs hlen
    rw [List.length_cons] at hlen
    obtain ⟨l1, w3, hp, hs1, e⟩ := ins_stepJ (R0 := R0) (z3 := z3) hl (hk k List.mem_cons_self) hs (by omega)
    have hl1 : BdJ l1 := fun x hx => by
      rcases List.mem_cons.mp (hp.mem_iff.mp hx) with h | h
      · rw [h]; exact hk k List.mem_cons_self
      · exact hl x h
    obtain ⟨l2, v2, v3, hp2, hs2, e2⟩ := ih l1 (some (.pu (rjD k))) w3 (fun x hx => hk x (List.mem_cons_of_mem _ hx)) hl1 hs1 (by rw [hp.length_eq, List.length_cons]; omega)
    refine ⟨l2, v2, v3, hp2.trans ((List.Perm.append_left ks hp).trans List.perm_middle), hs2, ?_⟩
    rw [List.map_cons, forO_cons (ρ1 := [R0, some (.pu (.list (l.map rjD))), some (.pu (rjD k)), z3]) rfl e]
    exact e2
theorem in_order_j {ks : List Ky} (hk : BdJ ks) (hl : ks.length ≤ 1000) : ∃ l : List Ky, l.Perm ks ∧ SrtK l ∧ v_in_order [.list (ks.map rjD)] = .ok (.list (l.map rjD)) := by
  obtain ⟨l, w2, w3, hp, hs, e⟩ := ord_loopJ (R0 := some (.pu (.list (ks.map rjD)))) ks [] none none hk (fun x h => absurd h List.not_mem_nil) List.Pairwise.nil (by rw [List.length_nil]; omega)
  rw [List.append_nil] at hp
  refine ⟨l, hp, hs, ?_⟩
  unfold v_in_order
  rw [fnR_ap, show argS 4 [.list (ks.map rjD)] = [some (.pu (.list (ks.map rjD))), none, none, none] from rfl]
  unfold b_in_order
  refine (congrArg fnK (sq_nx (ρ1 := [some (.pu (.list (ks.map rjD))), some (.pu (.list [])), none, none]) rfl)).trans ?_
  refine (congrArg fnK (sq_nx (ρ1 := [some (.pu (.list (ks.map rjD))), some (.pu (.list (l.map rjD))), w2, w3]) ?_)).trans ?_
  · rw [loO_ap, seqF_ap, varD_zero, sqK_l, loK_ok]
    exact e
  · rfl
end Mt

namespace Mt
open PySem PySem.Spec PyProof.Rows L2 TD Dn
/-! ### what is around -/
theorem mn_le1 (m x : Rat) : mnR m x ≤ m := by unfold mnR; split; exact Rat.le_of_lt (by assumption); exact Rat.le_refl
theorem mn_le2 (m x : Rat) : mnR m x ≤ x := by unfold mnR; split; exact Rat.le_refl; exact Rat.not_lt.mp (by assumption)
theorem mx_ge1 (m x : Rat) : m ≤ mxR m x := by unfold mxR; split; exact Rat.le_of_lt (by assumption); exact Rat.le_refl
theorem mx_ge2 (m x : Rat) : x ≤ mxR m x := by unfold mxR; split; exact Rat.le_refl; exact Rat.not_lt.mp (by assumption)
theorem mnf_le : ∀ (qs : List Rat) (q : Rat), qs.foldl mnR q ≤ q ∧ ∀ x ∈ qs, qs.foldl mnR q ≤ x
  | [], q => ⟨Rat.le_refl, fun x h => absurd h List.not_mem_nil⟩
  | y :: qs, q => by
    obtain ⟨h1, h2⟩ := mnf_le qs (mnR q y)
    refine ⟨Rat.le_trans h1 (mn_le1 q y), fun x hx => ?_⟩
    rcases List.mem_cons.mp hx with e | hx
    · rw [e]; exact Rat.le_trans h1 (mn_le2 q y)
    · exact h2 x hx
theorem mxf_ge : ∀ (qs : List Rat) (q : Rat), q ≤ qs.foldl mxR q ∧ ∀ x ∈ qs, x ≤ qs.foldl mxR q
  | [], q => ⟨Rat.le_refl, fun x h => absurd h List.not_mem_nil⟩
  | y :: qs, q => by
    obtain ⟨h1, h2⟩ := mxf_ge qs (mxR q y)
    refine ⟨Rat.le_trans (mx_ge1 q y) h1, fun x hx => ?_⟩
    rcases List.mem_cons.mp hx with e | hx
    · rw [e]; exact Rat.le_trans (mx_ge2 q y) h1
    · exact h2 x hx
theorem wiB_iff {a b : Bx} : wiB a b = true ↔ b.xl ≤ a.xl ∧ a.xh ≤ b.xh ∧ b.yl ≤ a.yl ∧ a.yh ≤ b.yh := by
  unfold wiB
  simp only [Bool.and_eq_true, decide_eq_true_eq]
  exact ⟨fun h => ⟨h.1.1, h.1.2, h.2.1, h.2.2⟩, fun h => ⟨⟨h.1, h.2.1⟩, h.2.2.1, h.2.2.2⟩⟩
theorem around_in {b : Bx} {bs : List Bx} {x : Bx} (h : x ∈ b :: bs) : wiB x (b.around bs) = true := by
  rw [wiB_iff]
  unfold Bx.around
  rcases List.mem_cons.mp h with e | h
  · subst e
    exact ⟨(mnf_le _ _).1, (mxf_ge _ _).1, (mnf_le _ _).1, (mxf_ge _ _).1⟩
  · exact ⟨(mnf_le _ _).2 _ (List.mem_map.mpr ⟨x, h, rfl⟩), (mxf_ge _ _).2 _ (List.mem_map.mpr ⟨x, h, rfl⟩), (mnf_le _ _).2 _ (List.mem_map.mpr ⟨x, h, rfl⟩), (mxf_ge _ _).2 _ (List.mem_map.mpr ⟨x, h, rfl⟩)⟩
theorem around_ok {b : Bx} {bs : List Bx} (h : b.Ok) (h2 : ∀ x ∈ bs, x.Ok) : (b.around bs).Ok := by
  have hin := wiB_iff.mp (around_in (b := b) (bs := bs) List.mem_cons_self)
  refine ⟨Rat.le_trans hin.1 (Rat.le_trans h.x hin.2.1), Rat.le_trans hin.2.2.1 (Rat.le_trans h.y hin.2.2.2), ?_, ?_, ?_, ?_⟩
  · exact mn_fold_bd _ _ h.bxl fun q hq => by obtain ⟨x, hx, rfl⟩ := List.mem_map.mp hq; exact (h2 x hx).bxl
  · exact mx_fold_bd _ _ h.bxh fun q hq => by obtain ⟨x, hx, rfl⟩ := List.mem_map.mp hq; exact (h2 x hx).bxh
  · exact mn_fold_bd _ _ h.byl fun q hq => by obtain ⟨x, hx, rfl⟩ := List.mem_map.mp hq; exact (h2 x hx).byl
  · exact mx_fold_bd _ _ h.byh fun q hq => by obtain ⟨x, hx, rfl⟩ := List.mem_map.mp hq; exact (h2 x hx).byh
section
variable {p q : Rat} {k l : Nat}
end
/-! ### the tree that is made -/
def nD (n : Nat) : D := .int (n : Int)
def axI (a : Bool) : Int := if a then 1 else 0
def Bx.lo' (b : Bx) (a : Bool) : Rat := if a then b.yl else b.xl
def Bx.hi' (b : Bx) (a : Bool) : Rat := if a then b.yh else b.xh
theorem ixAx (b : Bx) (a : Bool) : ixD (bxD b) (.int (axI a)) = .ok (spD (b.lo' a) (b.hi' a)) := by cases a <;> rfl
theorem Bx.Ok.lo {b : Bx} (h : b.Ok) (a : Bool) : Bd 100 (b.lo' a) ∧ Bd 100 (b.hi' a) := by
  cases a
  · exact ⟨h.bxl, h.bxh⟩
  · exact ⟨h.byl, h.byh⟩
def kyA (bs : List Bx) (a : Bool) (n : Nat) : Ky := ⟨(bAt bs n).lo' a + (bAt bs n).hi' a, 0, n⟩
def axB (b : Bx) : Bool := decide (b.xh - b.xl < b.yh - b.yl)
def arOf (bs : List Bx) (n : Nat) (ns : List Nat) : Bx := (bAt bs n).around (ns.map fun (j : Nat) => bAt bs j)
section
variable {bs : List Bx} (hbs : ∀ b ∈ bs, b.Ok)
include hbs
theorem bAt_ok {n : Nat} (h : n < bs.length) : (bAt bs n).Ok := hbs _ (bAt_mem (by omega) (by omega))
theorem arOf_ok {n : Nat} {ns : List Nat} (h : ∀ j ∈ n :: ns, j < bs.length) : (arOf bs n ns).Ok :=
  around_ok (bAt_ok hbs (h n List.mem_cons_self)) fun x hx => by
    obtain ⟨j, hj, rfl⟩ := List.mem_map.mp hx
    exact bAt_ok hbs (h j (List.mem_cons_of_mem _ hj))
theorem kyA_j {a : Bool} {n : Nat} (h : n < bs.length) : Bj (kyA bs a n) := by
  obtain ⟨h1, h2⟩ := (bAt_ok hbs h).lo a
  exact ⟨(add_bd h1 h2).up (by omega), rfl⟩
omit hbs in
theorem bAt_nat {n : Nat} (h : n < bs.length) : ixD (.tuple (bs.map bxD)) (nD n) = .ok (bxD (bAt bs n)) := bAt_get (by omega) (by omega)
/-- what both do first -/
theorem arD_eq {i : Nat} {ns : List Nat} {ρ : EnvS} (hn : ∀ j ∈ ns, j < bs.length) (hl : ns.length ≤ 1000) (h0 : varD 0 (wipeS ρ [i]) = .ok (.tuple (bs.map bxD))) (h1 : varD 1 ρ = .ok (.list (ns.map nD)))
    (hs : ∀ d, bin2 ixD (varD 0) (varD i) ((wipeS ρ [i]).set i (some (.pu d))) = ixD (.tuple (bs.map bxD)) d) :
    lcF (seqF (varD 1)) (nmG i) yesB (bin2 ixD (varD 0) (varD i)) [i] ρ = .ok ((ns.map fun (j : Nat) => bAt bs j).map bxD) := by
  rw [lcF_ap, seqF_ap, h1, sqK_l, lcK_ok (by unfold lineOk; rw [List.length_map]; exact decide_eq_true (by omega))]
  rw [comp_map (g := nD) (h := fun (j : Nat) => bxD (bAt bs j)) ns fun j hj => by rw [hs, bAt_nat (hn j hj)]]
  rw [List.map_map]
  rfl
noncomputable def MO : EnvS → Out := (sqO (stO 6 (bin2 fdivD (bin2 addD (callF lenK (consA (varD 5) nilA)) (cD (.int 1))) (cD (.int 2))))
  (stO 7 (lstF (lcF (seqF (varD 5)) (tupG 2 (consG (nmG 9) (consG (nmG 10) nilG))) yesB (varD 10) [9, 10]))))
omit hbs in
theorem comp_i {ρ : EnvS} (h : ρ.length = 11) : ∀ l : List Ky, compO (tupG 2 (consG (nmG 9) (consG (nmG 10) nilG))) yesB (varD 10) (l.map rjD) ρ = .ok ((l.map Ky.i).map nD) := by
  obtain ⟨a0, a1, a2, a3, a4, a5, a6, a7, a8, a9, a10, rfl⟩ : ∃ a0 a1 a2 a3 a4 a5 a6 a7 a8 a9 a10, ρ = [a0, a1, a2, a3, a4, a5, a6, a7, a8, a9, a10] := by
    rcases ρ with _ | ⟨a, _ | ⟨b, _ | ⟨c, _ | ⟨d, _ | ⟨e, _ | ⟨f, _ | ⟨g, _ | ⟨h, _ | ⟨i, _ | ⟨j, _ | ⟨k, _ | ⟨m, r⟩⟩⟩⟩⟩⟩⟩⟩⟩⟩⟩⟩ <;> first | (simp at h; done) | exact ⟨_, _, _, _, _, _, _, _, _, _, _, rfl⟩
  intro l
  induction l with
  | nil => rfl
  | cons k l ih =>
    rw [List.map_cons, List.map_cons, List.map_cons]
    exact compO_cons (ρ1 := [a0, a1, a2, a3, a4, a5, a6, a7, a8, some (.pu (N k.q)), some (.pu (nD k.i))]) rfl rfl ih
theorem prog_step {self : List D → R D} {n m : Nat} {ns : List Nat} (hn : ∀ j ∈ n :: m :: ns, j < bs.length) (hl : (n :: m :: ns).length ≤ 60) :
    ∃ l : List Ky, l.Perm ((n :: m :: ns).map (kyA bs (axB (arOf bs n (m :: ns))))) ∧ SrtK l ∧
      ∀ t1 t2 : D, self [.tuple (bs.map bxD), .list (((l.map Ky.i).take ((l.length + 1) / 2)).map nD)] = .ok t1 → self [.tuple (bs.map bxD), .list (((l.map Ky.i).drop ((l.length + 1) / 2)).map nD)] = .ok t2 →
        fnK (b__made self [some (.pu (.tuple (bs.map bxD))), some (.pu (.list ((n :: m :: ns).map nD))), none, none, none, none, none, none, none, none, none]) = .ok (.tuple [.str "fork", bxD (arOf bs n (m :: ns)), t1, t2]) := by
  have har := arOf_ok hbs hn
  have harx := har.lo false
  have hary := har.lo true
  obtain ⟨l, hp, hs, e⟩ := in_order_j (ks := (n :: m :: ns).map (kyA bs (axB (arOf bs n (m :: ns))))) (fun k hk => by
    obtain ⟨j, hj, rfl⟩ := List.mem_map.mp hk
    exact kyA_j hbs (hn j hj)) (by rw [List.length_map]; omega)
  have hll : l.length = (n :: m :: ns).length := by rw [hp.length_eq, List.length_map]
  refine ⟨l, hp, hs, fun t1 t2 s1 s2 => ?_⟩
  generalize hB : PyData.tuple (bs.map bxD) = B at *
  generalize hN : PyData.list ((n :: m :: ns).map nD) = NS at *
  have hB' : B = .tuple (bs.map bxD) := hB.symm
  have hN' : NS = .list ((n :: m :: ns).map nD) := hN.symm
  unfold b__made
  refine (congrArg fnK (sq_nx (if_skip ?_))).trans ?_
  · rw [asF_ap, bin2_ap, callF_ap, consA_ap, varD_succ, varD_zero, nilA_ap, cnK_ok, R.ok_bind, hN', lenK_list, cD_ap, k2_ok, eqD_int, List.length_map, decide_eq_false (by simp only [List.length_cons]; omega), asB_ok]
  refine (congrArg fnK (sq_nx (st_nx (d := bxD (arOf bs n (m :: ns))) ?_))).trans ?_
  · rw [callU_ap, consA_ap, lstF_ap, arD_eq hbs hn (by omega) (by rw [← hB']; rfl) (by rw [← hN']; rfl) (fun d => by rw [← hB']; rfl), lsK_ok, nilA_ap, cnK_ok, cuK_1]
    exact around_eq (by rw [List.length_map]; simp only [List.length_cons] at hl ⊢; omega) (bAt_ok hbs (hn n List.mem_cons_self)).vd fun x hx => by
      obtain ⟨j, hj, rfl⟩ := List.mem_map.mp hx
      exact (bAt_ok hbs (hn j (List.mem_cons_of_mem _ hj))).vd
  generalize hA : arOf bs n (m :: ns) = A at *
  simp only [List.set]
  refine (congrArg fnK (sq_nx (st_nx (d := .list [N (A.xh - A.xl), N (A.yh - A.yl)]) ?_))).trans ?_
  · rw [lstF_ap, lcF_ap, seqF_ap, show varD 2 [some (.pu B), some (.pu NS), some (.pu (bxD A)), none, none, none, none, none, none, none, none] = .ok (.tuple [spD A.xl A.xh, spD A.yl A.yh]) from rfl, sqK_t, lcK_ok rfl]
    rw [compO_cons (ρ1 := [some (.pu B), some (.pu NS), some (.pu (bxD A)), none, none, none, none, none, some (.pu (spD A.xl A.xh)), none, none]) rfl (v := N (A.xh - A.xl)) (by
        rw [callU_ap, consA_ap, consA_ap, nilA_ap, bin2_ap, bin2_ap]
        exact diff_eq har.bxh har.bxl (by omega)) (compO_cons (ρ1 := [some (.pu B), some (.pu NS), some (.pu (bxD A)), none, none, none, none, none, some (.pu (spD A.yl A.yh)), none, none]) rfl (v := N (A.yh - A.yl)) (by
        rw [callU_ap, consA_ap, consA_ap, nilA_ap, bin2_ap, bin2_ap]
        exact diff_eq har.byh har.byl (by omega)) rfl), lsK_ok]
  simp only [List.set]
  refine (congrArg fnK (sq_nx (st_nx (d := .int (axI (axB A))) ?_))).trans ?_
  · have ho := order_eq (sub_bd har.byh har.byl) (sub_bd har.bxh har.bxl) (by omega)
    rw [ifD_ap, asF_ap, bin2_ap, callU_ap, consA_ap, consA_ap, nilA_ap, bin2_ap, bin2_ap, show varD 3 [some (.pu B), some (.pu NS), some (.pu (bxD A)), some (.pu (.list [N (A.xh - A.xl), N (A.yh - A.yl)])), none, none, none, none, none, none, none] = .ok (.list [N (A.xh - A.xl), N (A.yh - A.yl)]) from rfl, cD_ap, cD_ap, k2_ok, k2_ok, ixL0, ixL1, cnK_ok, cnK_ok, cuK_2, ho, k2_ok, gtD_int, asB_ok]
    have hd : decide (0 < sgI (ordI (A.yh - A.yl) (A.xh - A.xl))) = axB A := by unfold axB; rw [decide_eq_decide, sg_pos, ord_pos]
    rw [hd]
    cases axB A <;> rfl
  simp only [List.set]
  refine (congrArg fnK (sq_nx (st_nx (d := .list (l.map rjD)) ?_))).trans ?_
  · rw [callU_ap, consA_ap, lstF_ap, lcF_ap, seqF_ap, varD_succ, varD_zero, hN', sqK_l, lcK_ok (by unfold lineOk; rw [List.length_map]; exact decide_eq_true (by omega))]
    rw [comp_map (g := nD) (h := fun j => rjD (kyA bs (axB A) j)) (n :: m :: ns) fun j hj => by
      obtain ⟨b1, b2⟩ := (bAt_ok hbs (hn j hj)).lo (axB A)
      simp only [wipeS_cons, wipeS_nil, List.set, tupD_ap, callU_ap, consA_ap, bin2_ap, varD_succ, varD_zero, cD_ap, k2_ok, hB', bAt_nat (hn j hj), ixAx, ixS0, ixS1, nilA_ap, cnK_ok, cuK_2, sum_eq b1 b2 (by omega : 100 + 100 < 7000), tuK_2]
      rfl]
    rw [show ((n :: m :: ns).map fun j => rjD (kyA bs (axB A) j)) = ((n :: m :: ns).map (kyA bs (axB A))).map rjD by rw [List.map_map]; rfl, lsK_ok, nilA_ap, cnK_ok, cuK_1, e]
  simp only [List.set]
  have hhalf : ((l.length : Int) + 1).fdiv 2 = (((l.length + 1) / 2 : Nat) : Int) := by
    rw [Int.fdiv_eq_ediv_of_nonneg _ (by omega)]; omega
  refine (congrArg fnK (sq_nx (st_nx (d := .int (((l.length + 1) / 2 : Nat) : Int)) ?_))).trans ?_
  · rw [bin2_ap, bin2_ap, callF_ap, consA_ap, nilA_ap, show varD 5 [some (.pu B), some (.pu NS), some (.pu (bxD A)), some (.pu (.list [N (A.xh - A.xl), N (A.yh - A.yl)])), some (.pu (.int (axI (axB A)))), some (.pu (.list (l.map rjD))), none, none, none, none, none] = .ok (.list (l.map rjD)) from rfl, cnK_ok, R.ok_bind, lenK_list, List.length_map, cD_ap, k2_ok, addD_int, cD_ap, k2_ok, ← hhalf]
    rfl
  simp only [List.set]
  refine (congrArg fnK (sq_nx (st_nx (d := .list ((l.map Ky.i).map nD)) ?_))).trans ?_
  · rw [lstF_ap, lcF_ap, seqF_ap, show varD 5 [some (.pu B), some (.pu NS), some (.pu (bxD A)), some (.pu (.list [N (A.xh - A.xl), N (A.yh - A.yl)])), some (.pu (.int (axI (axB A)))), some (.pu (.list (l.map rjD))), some (.pu (.int (((l.length + 1) / 2 : Nat) : Int))), none, none, none, none] = .ok (.list (l.map rjD)) from rfl, sqK_l, lcK_ok (by unfold lineOk; rw [List.length_map]; exact decide_eq_true (by omega)), comp_i rfl, lsK_ok]
  simp only [List.set]
  have hcut : (l.length + 1) / 2 ≤ ((l.map Ky.i).map nD).length := by rw [List.length_map, List.length_map]; simp only [List.length_cons] at hll; omega
  rw [rtO_ap, fnK_rtK]
  simp only [tupD_ap, consA_ap, cD_ap, callU_ap, slcG_ap, noP_ap, someP_ap, varD_succ, varD_zero, smK_ok, slK_l, cut_take, cut_drop _ hcut, nilA_ap, cnK_ok, cuK_2]
  rw [← List.map_take, ← List.map_drop, s1, s2]
  rfl
end
end Mt

namespace Mt
open PySem PySem.Spec PyProof.Rows L2 TD Dn
def Tr.Ins (bs : List Bx) : Tr → Prop
  | .leaf _ => True
  | .fork b l r => (∀ k ∈ l.lv ++ r.lv, wiB (bAt bs k) b = true) ∧ l.Ins bs ∧ r.Ins bs
theorem fk_none {bs : List Bx} : ∀ (t : Tr) (pl : List Int), t.Ins bs → fkT bs t pl = none
  | .leaf _, _, _ => rfl
  | .fork b l r, pl, ⟨h1, h2, h3⟩ => by
    rw [fkT_some, if_pos (List.all_eq_true.mpr h1), fk_none l _ h2]
    exact fk_none r _ h3
/-- a tree over some numbers, right in all -/
structure TreeOk (bs : List Bx) (ns : List Nat) (t : Tr) : Prop where
  perm : t.lv.Perm (ns.map fun n : Nat => (n : Int))
  vd : t.Vd
  ins : t.Ins bs
  ht : t.ht < ns.length
  sz : t.sz + 1 = 2 * ns.length
theorem pow_big {n : Nat} (h : n < 100000) : ((n : Int)).natAbs < 2 ^ 300 := by
  rw [Int.natAbs_natCast]
  exact Nat.lt_of_lt_of_le (show n < 2 ^ 17 by have : (2:Nat) ^ 17 = 131072 := by decide
                                               omega) (Nat.pow_le_pow_right (by decide) (by decide))
theorem leaf_ok {bs : List Bx} {n : Nat} (h : n < 100000) : TreeOk bs [n] (.leaf n) := ⟨List.Perm.refl _, pow_big h, trivial, Nat.zero_lt_one, rfl⟩
theorem fork_ok {bs : List Bx} {b : Bx} {l r : Tr} {ns ms ks : List Nat} (hb : b.Vd) (hl : TreeOk bs ms l) (hr : TreeOk bs ks r) (hp : (ms ++ ks).Perm ns) (hw : ∀ n ∈ ns, wiB (bAt bs (n : Nat)) b = true) (h1 : 0 < ms.length) (h2 : 0 < ks.length) : TreeOk bs ns (.fork b l r) := by
  have hlen := hp.length_eq
  rw [List.length_append] at hlen
  have pp : (l.lv ++ r.lv).Perm (ns.map fun n : Nat => (n : Int)) := by
    refine (hl.perm.append hr.perm).trans ?_
    rw [← List.map_append]
    exact hp.map _
  refine ⟨pp, ⟨hb, hl.vd, hr.vd⟩, ⟨fun k hk => ?_, hl.ins, hr.ins⟩, ?_, ?_⟩
  · obtain ⟨n, hn, rfl⟩ := List.mem_map.mp (pp.mem_iff.mp hk)
    exact hw n hn
  · have := hl.ht
    have := hr.ht
    unfold Tr.ht
    omega
  · have := hl.sz
    have := hr.sz
    unfold Tr.sz
    omega
theorem arOf_in {bs : List Bx} {n : Nat} {ns : List Nat} {j : Nat} (h : j ∈ n :: ns) : wiB (bAt bs j) (arOf bs n ns) = true := by
  refine around_in ?_
  rcases List.mem_cons.mp h with e | h
  · rw [e]; exact List.mem_cons_self
  · exact List.mem_cons_of_mem _ (List.mem_map.mpr ⟨j, h, rfl⟩)
section
variable {bs : List Bx} (hbs : ∀ b ∈ bs, b.Ok)
include hbs
theorem only_made : ∀ (N f : Nat) (ns : List Nat), ns.length ≤ N → ns.length ≤ f → ns ≠ [] → (∀ j ∈ ns, j < bs.length) → bs.length ≤ 60 → ns.length ≤ 60 →
    ∃ t : Tr, TreeOk bs ns t ∧ w__made f [.tuple (bs.map bxD), .list (ns.map nD)] = .ok (treD t) := by
  intro N
  induction N with
  | zero =>
    intro f ns h1 h2 h3
    exact absurd (List.length_eq_zero_iff.mp (Nat.le_zero.mp h1)) h3
  | succ N ih =>
    intro f ns h1 h2 h3 hn hb60 hl
    obtain ⟨f, rfl⟩ : ∃ g, f = g + 1 := by
      have := List.length_pos_iff.mpr h3
      exact ⟨f - 1, by omega⟩
    match ns, h1, h2, h3, hn, hl with
    | [n], _, _, _, hn, _ =>
      refine ⟨.leaf n, leaf_ok (by have := hn n List.mem_cons_self; omega), ?_⟩
      show fnK (b__made (w__made f) [some (.pu (.tuple (bs.map bxD))), some (.pu (.list [nD n])), none, none, none, none, none, none, none, none, none]) = _
      rfl
    | n :: m :: ns, h1, h2, _, hn, hl =>
      obtain ⟨l, hp, hs, ep⟩ := prog_step hbs (self := w__made f) hn hl
      generalize hms : l.map Ky.i = ms at ep
      have hpm : ms.Perm (n :: m :: ns) := by
        rw [← hms]
        have := hp.map Ky.i
        rw [List.map_map] at this
        exact this.trans (by rw [(List.map_congr_left (fun x _ => rfl) : (n :: m :: ns).map (Ky.i ∘ kyA bs (axB (arOf bs n (m :: ns)))) = (n :: m :: ns).map id), List.map_id])
      have hll : l.length = ms.length := by rw [← hms, List.length_map]
      have hml : ms.length = ns.length + 2 := hpm.length_eq
      simp only [List.length_cons] at h1 h2 hl
      rw [hll] at ep
      have hmem : ∀ j ∈ ms, j < bs.length := fun j hj => hn j (hpm.mem_iff.mp hj)
      have t1l : (ms.take ((ms.length + 1) / 2)).length = (ms.length + 1) / 2 := by rw [List.length_take]; omega
      have t2l : (ms.drop ((ms.length + 1) / 2)).length = ms.length - (ms.length + 1) / 2 := List.length_drop
      obtain ⟨t1, o1, a1⟩ := ih f (ms.take ((ms.length + 1) / 2)) (by omega) (by omega) (fun z => by rw [z, List.length_nil] at t1l; omega) (fun j hj => hmem j (List.mem_of_mem_take hj)) hb60 (by omega)
      obtain ⟨t2, o2, a2⟩ := ih f (ms.drop ((ms.length + 1) / 2)) (by omega) (by omega) (fun z => by rw [z, List.length_nil] at t2l; omega) (fun j hj => hmem j (List.mem_of_mem_drop hj)) hb60 (by omega)
      refine ⟨.fork (arOf bs n (m :: ns)) t1 t2, fork_ok (arOf_ok hbs hn).vd o1 o2 (by rw [List.take_append_drop]; exact hpm) (fun j hj => arOf_in hj) (by omega) (by omega), ?_⟩
      exact ep _ _ a1 a2
theorem rg_nD (n : Nat) : rngD 0 n = (List.range n).map nD := by
  unfold rngD nD
  exact List.map_congr_left fun i _ => by rw [Int.zero_add]
theorem tree_eq (h0 : bs ≠ []) (hl : bs.length ≤ 60) : ∃ t : Tr, TreeOk bs (List.range bs.length) t ∧ v_tree_of [.tuple (bs.map bxD)] = .ok (treD t) := by
  have hpos := List.length_pos_iff.mpr h0
  obtain ⟨t, ho, e1⟩ := only_made hbs 60 64 (List.range bs.length) (by rw [List.length_range]; omega) (by rw [List.length_range]; omega) (fun z => by have := congrArg List.length z; rw [List.length_range, List.length_nil] at this; omega) (fun j hj => List.mem_range.mp hj) hl (by rw [List.length_range]; omega)
  rw [← rg_nD hbs] at e1
  refine ⟨t, ho, ?_⟩
  have hck := check_boxes_eq hbs hl
  show fnK (b_tree_of [some (.pu (.tuple (bs.map bxD)))]) = _
  unfold b_tree_of
  rw [sqO_ap, exO_ap, show callU 1 v_check_boxes (consA (varD 0) nilA) [some (.pu (.tuple (bs.map bxD)))] = .ok .none from hck, exK_ok, Out.nx_seq]
  refine (congrArg fnK (sq_nx (if_skip ?_))).trans ?_
  · rw [asF_ap, bin2_ap, callF_ap, consA_ap, varD_zero, nilA_ap, cnK_ok, R.ok_bind, lenK_tuple, cD_ap, k2_ok, eqD_int, List.length_map, decide_eq_false (by omega), asB_ok]
  have er : lstF (rgNew (callF lenK (consA (varD 0) nilA))) [some (.pu (.tuple (bs.map bxD)))] = .ok (.list (rngD 0 bs.length)) := by
    rw [lstF_ap]
    unfold rgNew
    rw [callF_ap, consA_ap, varD_zero, nilA_ap, cnK_ok, R.ok_bind, lenK_tuple, R.ok_bind]
    dsimp only
    rw [List.length_map, if_pos (decide_eq_true (by omega)), Int.toNat_natCast, lsK_ok]
  rw [rtO_ap, fnK_rtK, callU_ap, consA_ap, consA_ap, er, nilA_ap, cnK_ok, varD_zero, cnK_ok, cuK_2]
  exact e1
omit hbs in
theorem rgI_eq (n : Nat) : rgI n = (List.range n).map fun n : Nat => (n : Int) := List.map_congr_left fun i _ => by rw [Int.zero_add]
omit hbs in
theorem sorted_rgI (n : Nat) : (rgI n).Pairwise (· ≤ ·) := by
  rw [rgI_eq]
  refine List.pairwise_map.mpr ?_
  exact List.pairwise_lt_range.imp fun {a b} h => by omega
omit hbs in
theorem due_none {t : Tr} (h : TreeOk bs (List.range bs.length) t) : dueT bs t = .none := by
  have hs : sortI t.lv = rgI bs.length := (sortI_eq (by rw [rgI_eq]; exact h.perm.symm) (sorted_rgI _)).symm
  unfold dueT
  rw [if_pos hs, fk_none t [] h.ins]
  rfl
end
/-! ### values that are nice -/
theorem nice_cons {d : D} {ds : List D} (h1 : niceD d = true) (h2 : niceL ds = true) : niceL (d :: ds) = true := by rw [niceL, h1, h2]; rfl
theorem nice_tup {ds : List D} (h : niceL ds = true) : niceD (.tuple ds) = true := by rw [niceD]; exact h
theorem nice_lst {ds : List D} (h : niceL ds = true) : niceD (.list ds) = true := by rw [niceD]; exact h
theorem nice_nil : niceL [] = true := by rw [niceL]
theorem nice_str {s : Str} (h : okD (.str s) = true) : niceD (.str s) = true := by rw [niceD]; exact h
theorem nice_sp {p q : Rat} (hp : Bd 300 p) (hq : Bd 300 q) : niceD (spD p q) = true := nice_tup (nice_cons (nice_N hp) (nice_cons (nice_N hq) nice_nil))
theorem nice_bx {b : Bx} (h : b.Vd) : niceD (bxD b) = true := nice_tup (nice_cons (nice_sp h.bxl h.bxh) (nice_cons (nice_sp h.byl h.byh) nice_nil))
theorem nice_tr : ∀ {t : Tr}, t.Vd → niceD (treD t) = true
  | .leaf k, h => nice_tup (nice_cons (nice_str okLeaf) (nice_cons (nice_int h) nice_nil))
  | .fork b l r, ⟨h1, h2, h3⟩ => nice_tup (nice_cons (nice_str okFork) (nice_cons (nice_bx h1) (nice_cons (nice_tr h2) (nice_cons (nice_tr h3) nice_nil))))
theorem sz_N (q : Rat) : szD (N q) = 3 := by unfold N; rw [szD, szL, szL, szL, szD, szD]
theorem sz_sp (p q : Rat) : szD (spD p q) = 7 := by unfold spD; rw [szD, szL, szL, szL, sz_N, sz_N]
theorem sz_bx (b : Bx) : szD (bxD b) = 15 := by unfold bxD; rw [szD, szL, szL, szL, sz_sp, sz_sp]
theorem sz_tr : ∀ t : Tr, szD (treD t) ≤ 20 * t.sz ∧ t.sz ≤ szD (treD t)
  | .leaf k => by
    unfold treD Tr.sz
    rw [szD, szL, szL, szL, szD, szD]
    omega
  | .fork b l r => by
    have h1 := sz_tr l
    have h2 := sz_tr r
    rw [show treD (.fork b l r) = .tuple [.str "fork", bxD b, treD l, treD r] from rfl]
    unfold Tr.sz
    rw [szD, szL, szL, szL, szL, szL, szD, sz_bx]
    omega
section
variable {bs : List Bx} {d : D} {t : Tr}
theorem tf_tree (hbs : ∀ b ∈ bs, b.Ok) (hl : bs.length ≤ 60) (hn : niceD (treD t) = true) (hsz : szD (treD t) ≤ 100000) (hh : t.ht < 61) (hv : t.Vd) (hs : t.sz ≤ 100000) :
    v_tree_fault [.tuple (bs.map bxD), treD t] = .ok (dueT bs t) := by
  have hbv : ∀ b ∈ bs, b.Vd := fun b hb => (hbs b hb).vd
  have hck := check_boxes_eq hbs hl
  obtain ⟨p, hp, ep⟩ := is_tree_eq hn hsz
  rw [hp.mpr ⟨t, rfl, hh, hv⟩] at ep
  have hnum := numbers_eq hs
  · show fnK (b_tree_fault [some (.pu (.tuple (bs.map bxD))), some (.pu (treD t)), none]) = _
    unfold b_tree_fault
    rw [sqO_ap, exO_ap, show callU 1 v_check_boxes (consA (varD 0) nilA) [some (.pu (.tuple (bs.map bxD))), some (.pu (treD t)), none] = .ok .none from hck, exK_ok, Out.nx_seq, sqO_ap, ifO_ap, notB_ap, asF_ap, show callU 1 v__is_tree (consA (varD 1) nilA) [some (.pu (.tuple (bs.map bxD))), some (.pu (treD t)), none] = .ok (.bool true) from ep, asB_ok, notK_ok, Bool.not_true, ifK_f, nxO_ap, Out.nx_seq, sqO_ap, ifO_ap,
      sort_part (ρ := [some (.pu (.tuple (bs.map bxD))), some (.pu (treD t)), none]) (f := callU 1 v_numbers_in (consA (varD 1) nilA)) (l := t.lv) (n := bs.length) (ds := bs.map bxD) hnum rfl (List.length_map ..) (by omega)]
    unfold dueT
    by_cases hc : sortI t.lv = rgI bs.length
    · rw [decide_eq_true hc, if_pos hc, Bool.not_true, ifK_f, nxO_ap, Out.nx_seq]
      refine (congrArg fnK (sq_nx (st_nx (d := optD (fkT bs t [])) (fork_fault_eq hbv (by omega) hv hs (rng_of_sort hc))))).trans ?_
      exact end_part rfl
    · rw [decide_eq_false hc, if_neg hc]
      rfl
end
end Mt

namespace Mt
open PySem PySem.Spec PyProof.Rows L2 TD Dn
theorem ix_some {ds : List D} {i : Int} (h0 : 0 ≤ i) (h1 : i < ds.length) : ∃ d ∈ ds, ixD (.list ds) (.int i) = .ok d := by
  obtain ⟨n, rfl⟩ := Int.eq_ofNat_of_zero_le h0
  have hn : n < ds.length := by omega
  exact ⟨ds[n], List.getElem_mem hn, ixD_list_nat (List.getElem?_eq_getElem hn)⟩
theorem ix_draw {ds : List Int} {n : Nat} (hg : ∀ x ∈ ds, 0 ≤ x) (h : n < ds.length) : ∃ x : Int, 0 ≤ x ∧ ixD (.list (ds.map .int)) (.int (n : Int)) = .ok (.int x) :=
  ⟨ds[n], hg _ (List.getElem_mem h), ixD_list_nat (by rw [List.getElem?_map, List.getElem?_eq_getElem h]; rfl)⟩
theorem addT {a b : List D} (h : a.length + b.length ≤ 1000) : addD (.tuple a) (.tuple b) = .ok (.tuple (a ++ b)) := if_pos (by unfold lineOk; exact decide_eq_true (by omega))
theorem addL {a b : List D} (h : a.length + b.length ≤ 1000) : addD (.list a) (.list b) = .ok (.list (a ++ b)) := if_pos (by unfold lineOk; exact decide_eq_true (by omega))
theorem draws_sum {ρ : EnvS} {ds : List Int} {f : EnvS → R D} {n : Nat} (h1 : varD 1 ρ = .ok (.list (ds.map .int))) (hf : f ρ = .ok (.int (n : Nat))) (hn : n ≤ ds.length) (hl : ds.length ≤ 400) :
    bin2 addD (slcG (varD 1) (someP f) noP) (varD 1) ρ = .ok (.list ((ds.drop n ++ ds).map .int)) := by
  rw [bin2_ap, slcG_ap, h1, someP_ap, hf, smK_ok, noP_ap, slK_l, cut_drop _ (by rw [List.length_map]; exact hn), k2_ok, addL (by rw [List.length_drop, List.length_map]; omega), List.map_append, List.map_drop]
theorem rg_list {ρ : EnvS} {m : Nat} (h : varD 2 ρ = .ok (.int (m : Nat))) (hm : m ≤ 1000) : lstF (rgNew (varD 2)) ρ = .ok (.list (rngD 0 m)) := by
  rw [lstF_ap]
  unfold rgNew
  rw [h, R.ok_bind]
  dsimp only
  rw [if_pos (decide_eq_true (by omega)), Int.toNat_natCast, lsK_ok]
structure Rr (bs : List Bx) (t : Tr) : Prop where
  ok : TreeOk bs (List.range bs.length) t
  none : v_tree_fault [.tuple (bs.map bxD), treD t] = .ok .none
  nice : niceD (treD t) = true
  sz : szD (treD t) ≤ 1000
theorem right_of {bs : List Bx} {t : Tr} (hbs : ∀ b ∈ bs, b.Ok) (h0 : bs ≠ []) (hl : bs.length ≤ 20) (h : TreeOk bs (List.range bs.length) t) : Rr bs t := by
  have hz := h.sz
  have hh := h.ht
  rw [List.length_range] at hz hh
  have hs := (sz_tr t).1
  have hn := nice_tr h.vd
  refine ⟨h, ?_, hn, by omega⟩
  have := tf_tree hbs (by omega) hn (by omega) (by omega) h.vd (by omega)
  rwa [due_none h] at this
end Mt

namespace Mt
open PySem PySem.Spec PyProof.Rows L2 TD Dn
theorem wi_trans {x a b : Bx} (h1 : wiB x a = true) (h2 : b.xl ≤ a.xl) (h3 : a.xh ≤ b.xh) (h4 : b.yl ≤ a.yl) (h5 : a.yh ≤ b.yh) : wiB x b = true := by
  rw [wiB_iff] at h1 ⊢
  exact ⟨Rat.le_trans h2 h1.1, Rat.le_trans h1.2.1 h3, Rat.le_trans h4 h1.2.2.1, Rat.le_trans h1.2.2.2 h5⟩
section
variable {bs : List Bx} (hbs : ∀ b ∈ bs, b.Ok)
include hbs
end
end Mt

namespace Mt
open PySem PySem.Spec PyProof.Rows L2 TD Dn
/-! ### meetings of boxes of trees -/
theorem spans_meet3 {a b c d : Rat} (ha : Bd 300 a) (hb : Bd 300 b) (hc : Bd 300 c) (hd : Bd 300 d) : v_spans_meet [spD a b, spD c d] = .ok (.bool (decide (a ≤ d) && decide (c ≤ b))) := by
  have e1 : decide (sgI (ordI a d) ≤ 0) = decide (a ≤ d) := by rw [decide_eq_decide]; exact ord_le a d
  have e2 : decide (sgI (ordI c b) ≤ 0) = decide (c ≤ b) := by rw [decide_eq_decide]; exact ord_le c b
  show fnK (b_spans_meet [some (.pu (spD a b)), some (.pu (spD c d))]) = _
  unfold b_spans_meet
  simp only [rtO_ap, andV_ap, bin2_ap, callU_ap, consA_ap, varD_zero, varD_succ, cD_ap, k2_ok, ixS0, ixS1, nilA_ap, cnK_ok, cuK_2, order_eq ha hd (by omega), order_eq hc hb (by omega), leD_int, e1, e2, asB_ok]
  cases decide (a ≤ d)
  · rfl
  · simp only [andVK_t, bin2_ap, callU_ap, consA_ap, varD_zero, varD_succ, cD_ap, k2_ok, ixS0, ixS1, nilA_ap, cnK_ok, cuK_2, order_eq hc hb (by omega : 300 + 300 < 7000), leD_int, e2, rtK_ok, fnK_rt, Bool.true_and]
def mtB (a b : Bx) : Bool := xm a b && ym a b
theorem meet_by_eq {a b : Bx} (ha : a.Vd) (hb : b.Vd) : v_boxes_meet_by [bxD a, bxD b] = .ok (.bool (mtB a b)) := by
  show fnK (b_boxes_meet_by [some (.pu (bxD a)), some (.pu (bxD b))]) = _
  unfold b_boxes_meet_by mtB xm ym
  simp only [rtO_ap, andV_ap, bin2_ap, callU_ap, consA_ap, varD_zero, varD_succ, cD_ap, k2_ok, ixB0, ixB1, nilA_ap, cnK_ok, cuK_2, spans_meet3 ha.bxl ha.bxh hb.bxl hb.bxh, spans_meet3 ha.byl ha.byh hb.byl hb.byh, asB_ok]
  cases (decide (a.xl ≤ b.xh) && decide (b.xl ≤ a.xh))
  · rfl
  · simp only [andVK_t, bin2_ap, callU_ap, consA_ap, varD_zero, varD_succ, cD_ap, k2_ok, ixB0, ixB1, nilA_ap, cnK_ok, cuK_2, spans_meet3 ha.byl ha.byh hb.byl hb.byh, rtK_ok, fnK_rt, Bool.true_and]
theorem lmeet_part {a b : Bx} {k : Int} {al ah bl bh : Rat} (h1 : ixD (bxD a) (.int k) = .ok (spD al ah)) (h2 : ixD (bxD b) (.int k) = .ok (spD bl bh)) (b1 : Bd 300 al) (b2 : Bd 300 ah) (b3 : Bd 300 bl) (b4 : Bd 300 bh) :
    orV (callU 2 v__law_less (consA (bin2 ixD (bin2 ixD (varD 0) (varD 2)) (cD (.int 1))) (consA (bin2 ixD (bin2 ixD (varD 1) (varD 2)) (cD (.int 0))) nilA))) (callU 2 v__law_less (consA (bin2 ixD (bin2 ixD (varD 1) (varD 2)) (cD (.int 1))) (consA (bin2 ixD (bin2 ixD (varD 0) (varD 2)) (cD (.int 0))) nilA))) [some (.pu (bxD a)), some (.pu (bxD b)), some (.pu (.int k))] = .ok (.bool (!(decide (al ≤ bh) && decide (bl ≤ ah)))) := by
  simp only [orV_ap, callU_ap, consA_ap, bin2_ap, varD_zero, varD_succ, cD_ap, k2_ok, h1, h2, ixS0, ixS1, nilA_ap, cnK_ok, cuK_2, less_eq b2 b3 (by omega : 300 + 300 < 7000), less_eq b4 b1 (by omega : 300 + 300 < 7000), asB_ok]
  by_cases h : ah < bl
  · rw [decide_eq_true h, orVK_t, decide_eq_false (Rat.not_le.mpr h), Bool.and_false]; rfl
  · rw [decide_eq_false h, orVK_f, decide_eq_true (Rat.not_lt.mp h), Bool.and_true]
    simp only [callU_ap, consA_ap, bin2_ap, varD_zero, varD_succ, cD_ap, k2_ok, h1, h2, ixS0, ixS1, nilA_ap, cnK_ok, cuK_2, less_eq b4 b1 (by omega : 300 + 300 < 7000)]
    by_cases h3 : bh < al
    · rw [decide_eq_true h3, decide_eq_false (Rat.not_le.mpr h3)]; rfl
    · rw [decide_eq_false h3, decide_eq_true (Rat.not_lt.mp h3)]; rfl
theorem lmeet_eq {a b : Bx} (ha : a.Vd) (hb : b.Vd) : v__law_meet [bxD a, bxD b] = .ok (.bool (mtB a b)) := by
  show fnK (b__law_meet [some (.pu (bxD a)), some (.pu (bxD b)), none]) = _
  unfold b__law_meet
  rw [rtO_ap, fnK_rtK, notV_ap, callF_ap, lcF_ap, show seqF (tupD (consA (cD (.int 0)) (consA (cD (.int 1)) nilA))) [some (.pu (bxD a)), some (.pu (bxD b)), none] = .ok [.int 0, .int 1] from rfl, lcK_ok rfl]
  rw [compO_cons (ρ1 := [some (.pu (bxD a)), some (.pu (bxD b)), some (.pu (.int 0))]) rfl (lmeet_part (a := a) (b := b) rfl rfl ha.bxl ha.bxh hb.bxl hb.bxh) (compO_cons (ρ1 := [some (.pu (bxD a)), some (.pu (bxD b)), some (.pu (.int 1))]) rfl (lmeet_part (a := a) (b := b) rfl rfl ha.byl ha.byh hb.byl hb.byh) rfl)]
  unfold mtB xm ym
  cases (decide (a.xl ≤ b.xh) && decide (b.xl ≤ a.xh)) <;> cases (decide (a.yl ≤ b.yh) && decide (b.yl ≤ a.yh)) <;> rfl
theorem mt_iff {a b : Bx} : mtB a b = true ↔ a.xl ≤ b.xh ∧ b.xl ≤ a.xh ∧ a.yl ≤ b.yh ∧ b.yl ≤ a.yh := by
  unfold mtB xm ym
  simp only [Bool.and_eq_true, decide_eq_true_eq]
  exact ⟨fun h => ⟨h.1.1, h.1.2, h.2.1, h.2.2⟩, fun h => ⟨⟨h.1, h.2.1⟩, h.2.2.1, h.2.2.2⟩⟩
theorem mt_in {x b c : Bx} (h : wiB x b = true) (hm : mtB x c = true) : mtB b c = true := by
  rw [wiB_iff] at h
  rw [mt_iff] at hm ⊢
  exact ⟨Rat.le_trans h.1 hm.1, Rat.le_trans hm.2.1 h.2.1, Rat.le_trans h.2.2.1 hm.2.2.1, Rat.le_trans hm.2.2.2 h.2.2.2⟩
theorem mt_wi {x c : Bx} (hx : x.xl ≤ x.xh ∧ x.yl ≤ x.yh) (h : wiB x c = true) : mtB x c = true := by
  rw [wiB_iff] at h
  rw [mt_iff]
  exact ⟨Rat.le_trans hx.1 h.2.1, Rat.le_trans h.1 hx.1, Rat.le_trans hx.2 h.2.2.2, Rat.le_trans h.2.2.1 hx.2⟩
/-! ### what is found -/
def hitT (bs : List Bx) (c : Bx) : Tr → List Int
  | .leaf k => if mtB (bAt bs k) c = true then [k] else []
  | .fork b l r => if mtB b c = true then hitT bs c l ++ hitT bs c r else []
def cntT (bs : List Bx) (c : Bx) : Tr → Int
  | .leaf _ => 1
  | .fork b l r => if mtB b c = true then 1 + cntT bs c l + cntT bs c r else 1
theorem lk_eq {bs : List Bx} {c : Bx} (hbs : ∀ b ∈ bs, b.Vd) (hc : c.Vd) : ∀ (t : Tr) (n : Nat), t.ht < n → t.Vd → Rng bs t → lkN v_boxes_meet_by n (.tuple (bs.map bxD)) (bxD c) (treD t) = .ok ((hitT bs c t).map .int, cntT bs c t)
  | .leaf k, n, hn, hv, hr => by
    obtain ⟨n, rfl⟩ : ∃ m, n = m + 1 := ⟨n - 1, by omega⟩
    obtain ⟨h0, h1⟩ := hr k (List.mem_singleton_self _)
    show lkStep _ _ _ _ _ = _
    unfold lkStep
    rw [show leafT [none, some (.pu (treD (.leaf k)))] = .ok true from isLeaf_t (k := k) rfl, R.ok_bind, if_pos rfl, show ixD (treD (.leaf k)) (.int 1) = .ok (.int k) from rfl, R.ok_bind, bAt_get h0 h1, R.ok_bind, meet_by_eq (hbs _ (bAt_mem h0 h1)) hc, asB_ok, R.ok_bind]
    unfold hitT cntT
    cases mtB (bAt bs k) c <;> rfl
  | .fork b l r, n, hn, ⟨hb, hl, hr'⟩, hr => by
    obtain ⟨n, rfl⟩ : ∃ m, n = m + 1 := ⟨n - 1, by omega⟩
    unfold Tr.ht at hn
    have e1 := lk_eq hbs hc l n (by omega) hl (fun k hk => hr k (List.mem_append_left _ hk))
    have e2 := lk_eq hbs hc r n (by omega) hr' (fun k hk => hr k (List.mem_append_right _ hk))
    show lkStep _ _ _ _ _ = _
    unfold lkStep
    rw [show leafT [none, some (.pu (treD (.fork b l r)))] = .ok false from isLeaf_f (b := b) (l := l) (r := r) rfl, R.ok_bind, if_neg Bool.false_ne_true, show ixD (treD (.fork b l r)) (.int 1) = .ok (bxD b) from rfl, R.ok_bind, meet_by_eq hb hc, asB_ok, R.ok_bind]
    rw [show hitT bs c (.fork b l r) = if mtB b c = true then hitT bs c l ++ hitT bs c r else [] from rfl, show cntT bs c (.fork b l r) = if mtB b c = true then 1 + cntT bs c l + cntT bs c r else 1 from rfl]
    cases mtB b c with
    | false => rfl
    | true =>
      rw [if_pos rfl, if_pos rfl, if_pos rfl, show ixD (treD (.fork b l r)) (.int 2) = .ok (treD l) from rfl, R.ok_bind, e1, R.ok_bind, show ixD (treD (.fork b l r)) (.int 3) = .ok (treD r) from rfl, R.ok_bind, e2, R.ok_bind, List.map_append]
theorem hit_eq {bs : List Bx} {c : Bx} : ∀ t : Tr, t.Ins bs → hitT bs c t = t.lv.filter fun k => mtB (bAt bs k) c
  | .leaf k, _ => by
    unfold hitT
    rw [show (Tr.leaf k).lv = [k] from rfl, List.filter_cons]
    cases mtB (bAt bs k) c <;> rfl
  | .fork b l r, ⟨h1, h2, h3⟩ => by
    rw [show hitT bs c (.fork b l r) = if mtB b c = true then hitT bs c l ++ hitT bs c r else [] from rfl, show (Tr.fork b l r).lv = l.lv ++ r.lv from rfl]
    cases hm : mtB b c with
    | true => rw [if_pos rfl, hit_eq l h2, hit_eq r h3, List.filter_append]
    | false =>
      rw [if_neg Bool.false_ne_true]
      symm
      rw [List.filter_eq_nil_iff]
      intro k hk z
      rw [mt_in (h1 k hk) z] at hm
      cases hm
theorem hit_cnt {bs : List Bx} {c : Bx} : ∀ t : Tr, ((hitT bs c t).length : Int) ≤ cntT bs c t ∧ 1 ≤ cntT bs c t ∧ cntT bs c t ≤ (t.sz : Nat)
  | .leaf k => by
    unfold hitT cntT Tr.sz
    cases mtB (bAt bs k) c
    · rw [if_neg Bool.false_ne_true]; exact ⟨by decide, by decide, by decide⟩
    · rw [if_pos rfl]; exact ⟨by simp, by decide, by decide⟩
  | .fork b l r => by
    have h1 := hit_cnt (bs := bs) (c := c) l
    have h2 := hit_cnt (bs := bs) (c := c) r
    rw [show hitT bs c (.fork b l r) = if mtB b c = true then hitT bs c l ++ hitT bs c r else [] from rfl, show cntT bs c (.fork b l r) = if mtB b c = true then 1 + cntT bs c l + cntT bs c r else 1 from rfl]
    unfold Tr.sz
    cases mtB b c
    · rw [if_neg Bool.false_ne_true, if_neg Bool.false_ne_true]
      exact ⟨by simp, by decide, by omega⟩
    · rw [if_pos rfl, if_pos rfl, List.length_append]
      omega
theorem lv_ne : ∀ t : Tr, ∃ k, k ∈ t.lv
  | .leaf k => ⟨k, List.mem_singleton_self _⟩
  | .fork _ l _ => by
    obtain ⟨k, h⟩ := lv_ne l
    exact ⟨k, List.mem_append_left _ h⟩
theorem cnt_all {bs : List Bx} {c : Bx} (hbs : ∀ b ∈ bs, b.Vd) : ∀ t : Tr, t.Ins bs → Rng bs t → (∀ b ∈ bs, wiB b c = true) → cntT bs c t = (t.sz : Nat)
  | .leaf k, _, _, _ => rfl
  | .fork b l r, ⟨h1, h2, h3⟩, hr, hc => by
    have e1 := cnt_all hbs l h2 (fun k hk => hr k (List.mem_append_left _ hk)) hc
    have e2 := cnt_all hbs r h3 (fun k hk => hr k (List.mem_append_right _ hk)) hc
    obtain ⟨k, hk⟩ := lv_ne l
    have hk' : k ∈ l.lv ++ r.lv := List.mem_append_left _ hk
    obtain ⟨k0, k1⟩ := hr k hk'
    have hm := bAt_mem k0 k1
    have : mtB b c = true := mt_in (h1 k hk') (mt_wi ⟨(hbs _ hm).x, (hbs _ hm).y⟩ (hc _ hm))
    rw [show cntT bs c (.fork b l r) = if mtB b c = true then 1 + cntT bs c l + cntT bs c r else 1 from rfl, if_pos this, e1, e2]
    rw [show (Tr.fork b l r).sz = l.sz + r.sz + 1 from rfl]
    omega
end Mt

namespace Mt
open PySem PySem.Spec PyProof.Rows L2 TD Dn
section
variable {bs : List Bx} (hbs : ∀ b ∈ bs, b.Ok) (hl : bs.length ≤ 20) {t : Tr} (hr : Rr bs t)
include hbs hl hr
theorem rg_of : Rng bs t := fun k hk => by
  obtain ⟨n, hn, rfl⟩ := List.mem_map.mp (hr.ok.perm.mem_iff.mp hk)
  have := List.mem_range.mp hn
  omega
theorem ht_of : t.ht < 64 := by have := hr.ok.ht; rw [List.length_range] at this; omega
theorem check_eq : v__check [.tuple (bs.map bxD), treD t] = .ok .none := by
  have hck := check_boxes_eq hbs (by omega : bs.length ≤ 60)
  show fnK (b__check [some (.pu (.tuple (bs.map bxD))), some (.pu (treD t))]) = _
  unfold b__check
  rw [sqO_ap, exO_ap, show callU 1 v_check_boxes (consA (varD 0) nilA) [some (.pu (.tuple (bs.map bxD))), some (.pu (treD t))] = .ok .none from hck, exK_ok, Out.nx_seq, if_skip (as_f ?_)]
  · rfl
  · rw [bin2_ap, show callU 2 v_tree_fault (consA (varD 0) (consA (varD 1) nilA)) [some (.pu (.tuple (bs.map bxD))), some (.pu (treD t))] = .ok .none from hr.none]
    rfl
theorem lv_len : t.lv.length = bs.length := by
  have := hr.ok.perm.length_eq
  rwa [List.length_map, List.length_range] at this
theorem hit_len (c : Bx) : (hitT bs c t).length ≤ 20 := by
  rw [hit_eq t hr.ok.ins]
  have := List.length_filter_le (fun k => mtB (bAt bs k) c) t.lv
  rw [lv_len hbs hl hr] at this
  omega
theorem lk_run {c : Bx} (hc : c.Vd) : v_lk (.tuple (bs.map bxD)) (bxD c) (treD t) = .ok ((hitT bs c t).map .int, cntT bs c t) :=
  lk_eq (fun b hb => (hbs b hb).vd) hc t 64 (ht_of hbs hl hr) hr.ok.vd (rg_of hbs hl hr)
theorem looked_eq {c : Bx} (hc : c.Ok) : v__looked [.tuple (bs.map bxD), treD t, bxD c] = .ok (lkD ((hitT bs c t).map .int) (cntT bs c t)) := by
  show fnK (b__looked [some (.pu (.tuple (bs.map bxD))), some (.pu (treD t)), some (.pu (bxD c)), none]) = _
  unfold b__looked
  rw [sqO_ap, exO_ap, show callU 2 v__check (consA (varD 0) (consA (varD 1) nilA)) [some (.pu (.tuple (bs.map bxD))), some (.pu (treD t)), some (.pu (bxD c)), none] = .ok .none from check_eq hbs hl hr, exK_ok, Out.nx_seq]
  refine (congrArg fnK (sq_nx (if_skip (not_f (as_t ?_))))).trans ?_
  · exact isbox_t ⟨c, rfl, hc.vd⟩
  refine (congrArg fnK (sq_nx (ρ1 := [some (.pu (.tuple (bs.map bxD))), some (.pu (treD t)), some (.pu (bxD c)), some (.pu (lkD ((hitT bs c t).map .int) (cntT bs c t)))]) ?_)).trans rfl
  show lkK 3 (.ok (treD t)) (v_lk (.tuple (bs.map bxD)) (bxD c)) [some (.pu (.tuple (bs.map bxD))), some (.pu (treD t)), some (.pu (bxD c)), none] = _
  have := hit_len hbs hl hr c
  rw [lkK_ok, lk_run hbs hl hr hc.vd, lkR_ok, if_pos (by rw [List.length_map]; rw [show lineOk ((hitT bs c t).length + 1) = true by unfold lineOk; exact decide_eq_true (by omega)]; rfl)]
  rfl
theorem looks_eq {c : Bx} (hc : c.Ok) : v_looks_by [.tuple (bs.map bxD), treD t, bxD c] = .ok (.int (cntT bs c t)) := by
  show fnK (b_looks_by [some (.pu (.tuple (bs.map bxD))), some (.pu (treD t)), some (.pu (bxD c))]) = _
  unfold b_looks_by
  rw [rtO_ap, fnK_rtK, un1_ap, show callU 3 v__looked (consA (varD 0) (consA (varD 1) (consA (varD 2) nilA))) [some (.pu (.tuple (bs.map bxD))), some (.pu (treD t)), some (.pu (bxD c))] = .ok (lkD ((hitT bs c t).map .int) (cntT bs c t)) from looked_eq hbs hl hr hc, R.ok_bind, lkC_ok]
def fnd (bs : List Bx) (c : Bx) : List Int := (rgI bs.length).filter fun k => mtB (bAt bs k) c
theorem sort_hits (c : Bx) : sortI (hitT bs c t) = fnd bs c := by
  refine (sortI_eq ?_ ?_).symm
  · rw [hit_eq t hr.ok.ins]
    unfold fnd
    rw [rgI_eq]
    exact (hr.ok.perm.filter _).symm
  · exact (sorted_rgI _).sublist List.filter_sublist
theorem found_eq {c : Bx} (hc : c.Ok) : v_found_by [.tuple (bs.map bxD), treD t, bxD c] = .ok (.tuple ((fnd bs c).map .int)) := by
  show fnK (b_found_by [some (.pu (.tuple (bs.map bxD))), some (.pu (treD t)), some (.pu (bxD c))]) = _
  unfold b_found_by
  rw [rtO_ap, fnK_rtK, callF_ap, callN_ap, asLF_ap, un1_ap, show callU 3 v__looked (consA (varD 0) (consA (varD 1) (consA (varD 2) nilA))) [some (.pu (.tuple (bs.map bxD))), some (.pu (treD t)), some (.pu (bxD c))] = .ok (lkD ((hitT bs c t).map .int) (cntT bs c t)) from looked_eq hbs hl hr hc, R.ok_bind, lkH_ok, alK_ok, R.ok_bind]
  unfold sortK
  rw [intsOf_map]
  show R.ok (PyData.tuple ((sortI (hitT bs c t)).map .int)) = _
  rw [sort_hits hbs hl hr]
end
/-! ### the box around all -/
theorem around_tup {b : Bx} {bs : List Bx} (hl : bs.length ≤ 1000) (h : b.Vd) (h2 : ∀ x ∈ bs, x.Vd) : v_around_by [.tuple ((b :: bs).map bxD)] = .ok (bxD (b.around bs)) := by
  have hlen : lineOk ((b :: bs).map bxD).length = true := by unfold lineOk; rw [List.length_map, List.length_cons]; exact decide_eq_true (by omega)
  have e1 : lcF (seqF (varD 0)) (nmG 1) yesB (bin2 ixD (varD 1) (cD (.int 0))) [1] [some (.pu (.tuple ((b :: bs).map bxD))), none] = .ok ((b :: bs).map fun x => spD x.xl x.xh) := by
    rw [lcF_ap, seqF_ap, varD_zero, sqK_t, lcK_ok hlen]
    exact comp_map (b :: bs) fun x _ => rfl
  have e2 : lcF (seqF (varD 0)) (nmG 1) yesB (bin2 ixD (varD 1) (cD (.int 1))) [1] [some (.pu (.tuple ((b :: bs).map bxD))), none] = .ok ((b :: bs).map fun x => spD x.yl x.yh) := by
    rw [lcF_ap, seqF_ap, varD_zero, sqK_t, lcK_ok hlen]
    exact comp_map (b :: bs) fun x _ => rfl
  have s1 := span_around_eq (b := b) (bs := bs) (lo := Bx.xl) (hi := Bx.xh) hl ⟨h.bxl, h.bxh⟩ fun x hx => ⟨(h2 x hx).bxl, (h2 x hx).bxh⟩
  have s2 := span_around_eq (b := b) (bs := bs) (lo := Bx.yl) (hi := Bx.yh) hl ⟨h.byl, h.byh⟩ fun x hx => ⟨(h2 x hx).byl, (h2 x hx).byh⟩
  show fnK (b_around_by [some (.pu (.tuple ((b :: bs).map bxD))), none]) = _
  unfold b_around_by
  rw [rtO_ap, fnK_rtK, tupD_ap, consA_ap, callU_ap, consA_ap, lstF_ap, e1, lsK_ok, nilA_ap, cnK_ok, cuK_1, s1, consA_ap, callU_ap, consA_ap, lstF_ap, e2, lsK_ok, nilA_ap, cnK_ok, cuK_1, s2]
  rfl
theorem box_around_eq {b : Bx} {bs : List Bx} (hl : bs.length ≤ 1000) (h : b.Ok) (h2 : ∀ x ∈ bs, x.Ok) : v_box_around [.tuple ((b :: bs).map bxD)] = .ok (bxD (b.around bs)) := by
  have hlen : lineOk ((b :: bs).map bxD).length = true := by unfold lineOk; rw [List.length_map, List.length_cons]; exact decide_eq_true (by omega)
  have hall : ∀ x ∈ b :: bs, x.Ok := fun x hx => by
    rcases List.mem_cons.mp hx with e | hx
    · rw [e]; exact h
    · exact h2 x hx
  have hck : v_check_boxes_all [.tuple ((b :: bs).map bxD)] = .ok .none := by
    show fnK (b_check_boxes_all [some (.pu (.tuple ((b :: bs).map bxD))), none]) = _
    unfold b_check_boxes_all
    have e : lcF (seqF (varD 0)) (nmG 1) yesB (callU 1 v_is_box (consA (varD 1) nilA)) [1] [some (.pu (.tuple ((b :: bs).map bxD))), none] = .ok (((b :: bs).map fun _ => true).map .bool) := by
      rw [lcF_ap, seqF_ap, varD_zero, sqK_t, lcK_ok hlen, List.map_map]
      exact comp_map (h := fun _ => .bool true) (b :: bs) fun x hx => isbox_t ⟨x, rfl, (hall x hx).vd⟩
    refine congrArg fnK (if_skip (o := fun ρ => .ex "BadBox" ρ) (not_f (as_t ?_)))
    rw [callF_ap, e, R.ok_bind, allK_map, List.all_map]
    refine congrArg (fun z => R.ok (PyData.bool z)) ?_
    exact List.all_eq_true.mpr fun _ _ => rfl
  show fnK (b_box_around [some (.pu (.tuple ((b :: bs).map bxD)))]) = _
  unfold b_box_around
  refine (congrArg fnK (sq_nx (if_skip (or_ff (not_f (as_t ?_)) (as_f ?_))))).trans ?_
  · simp [isiK, tyName, kit_tt]
  · rw [bin2_ap, callF_ap, consA_ap, varD_zero, nilA_ap, cnK_ok, R.ok_bind, lenK_tuple, cD_ap, k2_ok, eqD_int, List.length_map, List.length_cons, decide_eq_false (by omega)]
  rw [sqO_ap, exO_ap, show callU 1 v_check_boxes_all (consA (varD 0) nilA) [some (.pu (.tuple ((b :: bs).map bxD)))] = .ok .none from hck, exK_ok, Out.nx_seq, rtO_ap, fnK_rtK]
  exact around_tup hl h.vd fun x hx => (h2 x hx).vd
/-! ### all pairs, by a tree -/
theorem comp_filt {i : Nat} {fe : EnvS → R D} {te : EnvS → R Bool} {ρ : EnvS} {p : Int → Bool} {h : Int → D} (xs : List Int) (ht : ∀ x ∈ xs, te (ρ.set i (some (.pu (.int x)))) = .ok (p x)) (hf : ∀ x ∈ xs, fe (ρ.set i (some (.pu (.int x)))) = .ok (h x)) : compO (nmG i) te fe (xs.map .int) ρ = .ok ((xs.filter p).map h) := by
  induction xs with
  | nil => rfl
  | cons x xs ih =>
    have e := ih (fun y hy => ht y (List.mem_cons_of_mem _ hy)) (fun y hy => hf y (List.mem_cons_of_mem _ hy))
    rw [List.map_cons]
    unfold compO
    rw [nmG_ap]
    dsimp only
    rw [ht x List.mem_cons_self]
    cases hp : p x with
    | true =>
      dsimp only
      rw [hf x List.mem_cons_self, e, List.filter_cons_of_pos hp]
      rfl
    | false =>
      dsimp only
      rw [e, List.filter_cons_of_neg (by rw [hp]; exact Bool.false_ne_true)]
def prs (bs : List Bx) (t : Tr) (i : Nat) : List (Int × Int) := ((hitT bs (bAt bs i) t).filter fun k => decide ((i : Int) < k)).map fun k => ((i : Int), k)
noncomputable def PB : EnvS → Out := (sqO (lkO 5 (varD 0) (varD 4) (varD 1) v_lk)
  (extO 2 (lcF (seqF (un1 lkH (varD 5))) (nmG 6) (asF (bin2 gtD (varD 6) (varD 3))) (tupD (consA (varD 3) (consA (varD 6) nilA))) [6])))
section
variable {bs : List Bx} (hbs : ∀ b ∈ bs, b.Ok) (hl : bs.length ≤ 20) {t : Tr} (hr : Rr bs t)
include hbs hl hr
theorem tpair_step {z5 z6 : Option Sl} {fs : List (Int × Int)} (hf : fs.length ≤ 1000) {i : Nat} (hi : i < bs.length) :
    ∃ w5, PB [some (.pu (.tuple (bs.map bxD))), some (.pu (treD t)), some (.ow (fs.map prD2)), some (.pu (.int (i : Nat))), some (.pu (bxD (bAt bs i))), z5, z6] = .nx [some (.pu (.tuple (bs.map bxD))), some (.pu (treD t)), some (.ow ((fs ++ prs bs t i).map prD2)), some (.pu (.int (i : Nat))), some (.pu (bxD (bAt bs i))), w5, z6] := by
  have hb := bAt_ok hbs hi
  have hln := hit_len hbs hl hr (bAt bs i)
  refine ⟨some (.pu (lkD ((hitT bs (bAt bs i) t).map .int) (cntT bs (bAt bs i) t))), ?_⟩
  unfold PB
  refine (sq_nx (ρ1 := [some (.pu (.tuple (bs.map bxD))), some (.pu (treD t)), some (.ow (fs.map prD2)), some (.pu (.int (i : Nat))), some (.pu (bxD (bAt bs i))), some (.pu (lkD ((hitT bs (bAt bs i) t).map .int) (cntT bs (bAt bs i) t))), z6]) ?_).trans ?_
  · show lkK 5 (.ok (treD t)) (v_lk (.tuple (bs.map bxD)) (bxD (bAt bs i))) [some (.pu (.tuple (bs.map bxD))), some (.pu (treD t)), some (.ow (fs.map prD2)), some (.pu (.int (i : Nat))), some (.pu (bxD (bAt bs i))), z5, z6] = _
    rw [lkK_ok, lk_run hbs hl hr hb.vd, lkR_ok, if_pos (by rw [List.length_map]; rw [show lineOk ((hitT bs (bAt bs i) t).length + 1) = true by unfold lineOk; exact decide_eq_true (by omega)]; rfl)]
    rfl
  have ec : lcF (seqF (un1 lkH (varD 5))) (nmG 6) (asF (bin2 gtD (varD 6) (varD 3))) (tupD (consA (varD 3) (consA (varD 6) nilA))) [6] [some (.pu (.tuple (bs.map bxD))), some (.pu (treD t)), some (.ow (fs.map prD2)), some (.pu (.int (i : Nat))), some (.pu (bxD (bAt bs i))), some (.pu (lkD ((hitT bs (bAt bs i) t).map .int) (cntT bs (bAt bs i) t))), z6] = .ok ((prs bs t i).map prD2) := by
    rw [lcF_ap, seqF_ap, un1_ap, show varD 5 [some (.pu (.tuple (bs.map bxD))), some (.pu (treD t)), some (.ow (fs.map prD2)), some (.pu (.int (i : Nat))), some (.pu (bxD (bAt bs i))), some (.pu (lkD ((hitT bs (bAt bs i) t).map .int) (cntT bs (bAt bs i) t))), z6] = .ok (lkD ((hitT bs (bAt bs i) t).map .int) (cntT bs (bAt bs i) t)) from rfl, R.ok_bind, lkH_ok, sqK_l, lcK_ok (by unfold lineOk; rw [List.length_map]; exact decide_eq_true (by omega))]
    rw [comp_filt (p := fun k => decide ((i : Int) < k)) (h := fun k => .tuple [.int (i : Nat), .int k]) _ (fun x _ => rfl) (fun x _ => rfl)]
    unfold prs
    rw [List.map_map]
    rfl
  unfold extO
  show (lcF _ _ _ _ _ _).out _ _ = _
  rw [ec, R.ok_out, if_pos (by
    unfold lineOk prs
    have := List.length_filter_le (fun k => decide ((i : Int) < k)) (hitT bs (bAt bs i) t)
    rw [List.length_map, List.length_map, List.length_map]
    exact decide_eq_true (by omega)), ← List.map_append]
  rfl
theorem tpair_loop : ∀ (n i : Nat) (cs : List Bx) (fs : List (Int × Int)) (z3 z4 z5 z6 : Option Sl), n + i = bs.length → cs = bs.drop i → fs.length + 20 * n ≤ 1000 →
    ∃ w3 w4 w5, forO (tupG 2 (consG (nmG 3) (consG (nmG 4) nilG))) PB (enumFrom i (cs.map bxD)) [some (.pu (.tuple (bs.map bxD))), some (.pu (treD t)), some (.ow (fs.map prD2)), z3, z4, z5, z6] = .nx [some (.pu (.tuple (bs.map bxD))), some (.pu (treD t)), some (.ow ((fs ++ (List.range' i n).flatMap (prs bs t)).map prD2)), w3, w4, w5, z6]
  | 0, i, cs, fs, z3, z4, z5, z6, hn, hc, _ => by
    have : cs = [] := by rw [hc]; exact List.drop_of_length_le (by omega)
    subst this
    exact ⟨z3, z4, z5, by rw [List.range'_zero, List.flatMap_nil, List.append_nil]; rfl⟩
  | n + 1, i, cs, fs, z3, z4, z5, z6, hn, hc, hf => by
    have hi : i < bs.length := by omega
    have hcs : cs = bAt bs i :: bs.drop (i + 1) := by
      rw [hc, List.drop_eq_getElem_cons hi]
      congr 1
      unfold bAt
      rw [Int.toNat_natCast, List.getD_eq_getElem?_getD, List.getElem?_eq_getElem hi]
      rfl
    obtain ⟨v5, e⟩ := tpair_step hbs hl hr (z5 := z5) (z6 := z6) (fs := fs) (by omega) hi
    have hpl : (prs bs t i).length ≤ 20 := by
      unfold prs
      have := List.length_filter_le (fun k => decide ((i : Int) < k)) (hitT bs (bAt bs i) t)
      have := hit_len hbs hl hr (bAt bs i)
      rw [List.length_map]
      omega
    obtain ⟨w3, w4, w5, e2⟩ := tpair_loop n (i + 1) (bs.drop (i + 1)) (fs ++ prs bs t i) (some (.pu (.int (i : Nat)))) (some (.pu (bxD (bAt bs i)))) v5 z6 (by omega) rfl (by rw [List.length_append]; omega)
    refine ⟨w3, w4, w5, ?_⟩
    rw [hcs, List.map_cons, enumFrom, forO_cons (ρ1 := [some (.pu (.tuple (bs.map bxD))), some (.pu (treD t)), some (.ow (fs.map prD2)), some (.pu (.int (i : Nat))), some (.pu (bxD (bAt bs i))), z5, z6]) rfl e, e2, List.range'_succ, List.flatMap_cons, List.append_assoc]
theorem hit_nodup (c : Bx) : (hitT bs c t).Nodup := by
  rw [hit_eq t hr.ok.ins]
  refine List.Nodup.sublist List.filter_sublist ?_
  refine hr.ok.perm.symm.nodup ?_
  refine List.pairwise_map.mpr (List.pairwise_lt_range.imp fun {a b} h => by omega)
theorem meet_at {i j : Nat} (hi : i < bs.length) (hj : j < bs.length) : meetAt bs i j = mtB (bAt bs (i : Nat)) (bAt bs (j : Nat)) := by
  unfold meetAt bAt
  rw [Int.toNat_natCast, Int.toNat_natCast, List.getD_eq_getElem?_getD, List.getD_eq_getElem?_getD, List.getElem?_eq_getElem hi, List.getElem?_eq_getElem hj]
  rfl
theorem prs_mem {p : Int × Int} : p ∈ (List.range bs.length).flatMap (prs bs t) ↔ p ∈ due bs := by
  rw [List.mem_flatMap, due_mem]
  constructor
  · rintro ⟨i, hi, hp⟩
    have hi := List.mem_range.mp hi
    unfold prs at hp
    obtain ⟨k, hk, rfl⟩ := List.mem_map.mp hp
    rw [List.mem_filter] at hk
    obtain ⟨hk, hik⟩ := hk
    have hik := of_decide_eq_true hik
    rw [hit_eq t hr.ok.ins, List.mem_filter] at hk
    obtain ⟨hk1, hk2⟩ := hk
    obtain ⟨j, hj, rfl⟩ := List.mem_map.mp (hr.ok.perm.mem_iff.mp hk1)
    have hj := List.mem_range.mp hj
    refine ⟨i, j, by omega, hj, rfl, ?_⟩
    rw [meet_at hbs hl hr hi hj, mt_iff]
    have := mt_iff.mp hk2
    exact ⟨this.2.1, this.1, this.2.2.2, this.2.2.1⟩
  · rintro ⟨i, j, h1, h2, rfl, h3⟩
    refine ⟨i, List.mem_range.mpr (by omega), ?_⟩
    unfold prs
    refine List.mem_map.mpr ⟨(j : Int), ?_, rfl⟩
    rw [List.mem_filter]
    refine ⟨?_, decide_eq_true (by omega)⟩
    rw [hit_eq t hr.ok.ins, List.mem_filter]
    refine ⟨hr.ok.perm.mem_iff.mpr (List.mem_map.mpr ⟨j, List.mem_range.mpr h2, rfl⟩), ?_⟩
    rw [meet_at hbs hl hr (by omega) h2, mt_iff] at h3
    rw [mt_iff]
    exact ⟨h3.2.1, h3.1, h3.2.2.2, h3.2.2.1⟩
theorem prs_nodup : ((List.range bs.length).flatMap (prs bs t)).Nodup := by
  refine List.pairwise_flatMap.mpr ⟨fun i _ => ?_, ?_⟩
  · unfold prs
    refine List.pairwise_map.mpr ?_
    refine ((hit_nodup hbs hl hr (bAt bs i)).sublist List.filter_sublist).imp ?_
    intro a b hab z
    exact hab (Prod.mk.inj z).2
  · refine (List.pairwise_lt_range (n := bs.length)).imp ?_
    intro a b hab x hx y hy z
    unfold prs at hx hy
    obtain ⟨_, _, rfl⟩ := List.mem_map.mp hx
    obtain ⟨_, _, rfl⟩ := List.mem_map.mp hy
    have := (Prod.mk.inj z).1
    omega
theorem pairs_found_eq : v_pairs_found [.tuple (bs.map bxD), treD t] = .ok (.tuple ((due bs).map prD2)) := by
  obtain ⟨w3, w4, w5, e⟩ := tpair_loop hbs hl hr bs.length 0 bs [] none none none none (by omega) rfl (by rw [List.length_nil]; omega)
  rw [List.nil_append, ← List.range_eq_range'] at e
  have hs : sortP ((List.range bs.length).flatMap (prs bs t)) = due bs := by
    refine (sortP_eq ?_ ?_).symm
    · exact (List.perm_ext_iff_of_nodup (due_nodup bs) (prs_nodup hbs hl hr)).mpr fun p => (prs_mem hbs hl hr).symm
    · exact (due_sorted bs).imp fun {p q} h => prLe_iff.mpr (by rcases h with h | ⟨h1, h2⟩ <;> omega)
  show fnK (b_pairs_found [some (.pu (.tuple (bs.map bxD))), some (.pu (treD t)), none, none, none, none, none]) = _
  unfold b_pairs_found
  rw [sqO_ap, exO_ap, show callU 2 v__check (consA (varD 0) (consA (varD 1) nilA)) [some (.pu (.tuple (bs.map bxD))), some (.pu (treD t)), none, none, none, none, none] = .ok .none from check_eq hbs hl hr, exK_ok, Out.nx_seq]
  refine (congrArg fnK (sq_nx (ρ1 := [some (.pu (.tuple (bs.map bxD))), some (.pu (treD t)), some (.ow (([] : List (Int × Int)).map prD2)), none, none, none, none]) rfl)).trans ?_
  refine (congrArg fnK (sq_nx (ρ1 := [some (.pu (.tuple (bs.map bxD))), some (.pu (treD t)), some (.ow (((List.range bs.length).flatMap (prs bs t)).map prD2)), w3, w4, w5, none]) ?_)).trans ?_
  · refine Eq.trans ?_ e
    rw [loO_ap, show enuA (varD 0) [some (.pu (.tuple (bs.map bxD))), some (.pu (treD t)), some (.ow (([] : List (Int × Int)).map prD2)), none, none, none, none] = .ok (enumFrom 0 (bs.map bxD)) from rfl, loK_ok]
    rfl
  · rw [rtO_ap, fnK_rtK, callF_ap, callN_ap, show ownD 2 [some (.pu (.tuple (bs.map bxD))), some (.pu (treD t)), some (.ow (((List.range bs.length).flatMap (prs bs t)).map prD2)), w3, w4, w5, none] = .ok (((List.range bs.length).flatMap (prs bs t)).map prD2) from rfl, R.ok_bind]
    show (sortK (((List.range bs.length).flatMap (prs bs t)).map prD2)).bind _ = _
    rw [sortK_pairs, hs]
    rfl
end
end Mt

namespace Mt
open PySem PySem.Spec PyProof.Rows L2 TD Dn
/-! ### what an error is told as -/
def TB : List (Str × D) := [("BadTree", (.str "tree")), ("BadBoxes", (.str "boxes")), ("BadBox", (.str "box"))]
def errR : R D → R D
  | .ok _ => .ok (.str "none")
  | .ex x => (match lkpR TB x with
    | some d => .ok d
    | none => .no)
  | .no => .no
theorem errR_ok {d : D} : errR (.ok d) = .ok (.str "none") := rfl
theorem lk_tree : lkpR TB "BadTree" = some (.str "tree") := by unfold TB lkpR; rw [if_pos rfl]
theorem lk_boxes : lkpR TB "BadBoxes" = some (.str "boxes") := by unfold TB lkpR lkpR; rw [if_neg (by decide), if_pos rfl]
theorem lk_box : lkpR TB "BadBox" = some (.str "box") := by unfold TB lkpR lkpR lkpR; rw [if_neg (by decide), if_neg (by decide), if_pos rfl]
theorem errR_box : errR (.ex "BadBox") = .ok (.str "box") := by unfold errR; dsimp only; rw [lk_box]
theorem errR_boxes : errR (.ex "BadBoxes") = .ok (.str "boxes") := by unfold errR; dsimp only; rw [lk_boxes]
theorem errR_tree : errR (.ex "BadTree") = .ok (.str "tree") := by unfold errR; dsimp only; rw [lk_tree]
theorem try_ex {f : EnvS → R D} {g : EnvS → Out} {ρ : EnvS} (h : g ρ = exO f ρ) : fnK (sqO (tryR TB g) (rtO (cD (.str "none"))) ρ) = errR (f ρ) := by
  rw [sqO_ap]
  unfold tryR
  rw [h, exO_ap]
  cases f ρ with
  | ok d => rfl
  | no => rfl
  | ex x =>
    show fnK (Out.seq (match lkpR TB x with
      | some d => .rt d
      | none => .no) _) = (match lkpR TB x with
      | some d => .ok d
      | none => .no)
    cases lkpR TB x <;> rfl
theorem way_f {k j : Int} {ρ : EnvS} {a b : EnvS → Out} (h : varD 0 ρ = .ok (.int k)) (hk : k ≠ j) : ifO (asF (bin2 eqD (varD 0) (cD (.int j)))) a b ρ = b ρ := by
  rw [ifO_ap, asF_ap, bin2_ap, h, cD_ap, k2_ok, eqD_int, asB_ok, decide_eq_false hk, ifK_f]
theorem way_t {k : Int} {ρ : EnvS} {a b : EnvS → Out} (h : varD 0 ρ = .ok (.int k)) : ifO (asF (bin2 eqD (varD 0) (cD (.int k)))) a b ρ = a ρ := by
  rw [ifO_ap, asF_ap, bin2_ap, h, cD_ap, k2_ok, eqD_int, asB_ok, decide_eq_true rfl, ifK_t]
section
variable (a b c : D)
theorem err0 : v__law_error [.int 0, a, b, c] = errR (v_boxes_meet [a, b]) := by
  show fnK (b__law_error [some (.pu (.int 0)), some (.pu a), some (.pu b), some (.pu c), none]) = _
  exact try_ex (f := callU 2 v_boxes_meet (consA (varD 1) (consA (varD 2) nilA))) (by rw [way_t rfl])
theorem err1 : v__law_error [.int 1, a, b, c] = errR (v_box_around [a]) := by
  show fnK (b__law_error [some (.pu (.int 1)), some (.pu a), some (.pu b), some (.pu c), none]) = _
  exact try_ex (f := callU 1 v_box_around (consA (varD 1) nilA)) (by rw [way_f rfl (by decide), way_t rfl])
theorem err2 : v__law_error [.int 2, a, b, c] = errR (v_sweep_row [a]) := by
  show fnK (b__law_error [some (.pu (.int 2)), some (.pu a), some (.pu b), some (.pu c), none]) = _
  exact try_ex (f := callU 1 v_sweep_row (consA (varD 1) nilA)) (by rw [way_f rfl (by decide), way_f rfl (by decide), way_t rfl])
theorem err3 : v__law_error [.int 3, a, b, c] = errR (v_sweep_pairs [a]) := by
  show fnK (b__law_error [some (.pu (.int 3)), some (.pu a), some (.pu b), some (.pu c), none]) = _
  exact try_ex (f := callU 1 v_sweep_pairs (consA (varD 1) nilA)) (by rw [way_f rfl (by decide), way_f rfl (by decide), way_f rfl (by decide), way_t rfl])
theorem err4 : v__law_error [.int 4, a, b, c] = errR (v_tree_of [a]) := by
  show fnK (b__law_error [some (.pu (.int 4)), some (.pu a), some (.pu b), some (.pu c), none]) = _
  exact try_ex (f := callU 1 v_tree_of (consA (varD 1) nilA)) (by rw [way_f rfl (by decide), way_f rfl (by decide), way_f rfl (by decide), way_f rfl (by decide), way_t rfl])
theorem err5 : v__law_error [.int 5, a, b, c] = errR (v_tree_fault [a, b]) := by
  show fnK (b__law_error [some (.pu (.int 5)), some (.pu a), some (.pu b), some (.pu c), none]) = _
  exact try_ex (f := callU 2 v_tree_fault (consA (varD 1) (consA (varD 2) nilA))) (by rw [way_f rfl (by decide), way_f rfl (by decide), way_f rfl (by decide), way_f rfl (by decide), way_f rfl (by decide), way_t rfl])
theorem err6 : v__law_error [.int 6, a, b, c] = errR (v_found_by [a, b, c]) := by
  show fnK (b__law_error [some (.pu (.int 6)), some (.pu a), some (.pu b), some (.pu c), none]) = _
  exact try_ex (f := callU 3 v_found_by (consA (varD 1) (consA (varD 2) (consA (varD 3) nilA)))) (by rw [way_f rfl (by decide), way_f rfl (by decide), way_f rfl (by decide), way_f rfl (by decide), way_f rfl (by decide), way_f rfl (by decide), way_t rfl])
theorem err7 : v__law_error [.int 7, a, b, c] = errR (v_looks_by [a, b, c]) := by
  show fnK (b__law_error [some (.pu (.int 7)), some (.pu a), some (.pu b), some (.pu c), none]) = _
  exact try_ex (f := callU 3 v_looks_by (consA (varD 1) (consA (varD 2) (consA (varD 3) nilA)))) (by rw [way_f rfl (by decide), way_f rfl (by decide), way_f rfl (by decide), way_f rfl (by decide), way_f rfl (by decide), way_f rfl (by decide), way_f rfl (by decide), way_t rfl])
theorem err8 : v__law_error [.int 8, a, b, c] = errR (v_pairs_found [a, b]) := by
  show fnK (b__law_error [some (.pu (.int 8)), some (.pu a), some (.pu b), some (.pu c), none]) = _
  exact try_ex (f := callU 2 v_pairs_found (consA (varD 1) (consA (varD 2) nilA))) (by rw [way_f rfl (by decide), way_f rfl (by decide), way_f rfl (by decide), way_f rfl (by decide), way_f rfl (by decide), way_f rfl (by decide), way_f rfl (by decide), way_f rfl (by decide)])
end
/-! ### boxes and others -/
open Classical in
noncomputable def bxQ (d : D) : Bool := decide (IsBx d)
theorem bxQ_t {d : D} (h : IsBx d) : bxQ d = true := by classical
  unfold bxQ
  exact decide_eq_true h
theorem bxQ_f {d : D} (h : ¬ IsBx d) : bxQ d = false := by classical
  unfold bxQ
  exact decide_eq_false h
theorem isbox_eq {d : D} (hn : niceD d = true) : v_is_box [d] = .ok (.bool (bxQ d)) := by
  by_cases h : IsBx d
  · rw [bxQ_t h]; exact isbox_t h
  · rw [bxQ_f h]; exact isbox_f hn h
theorem boxes_all {ds : List D} (hn : ∀ d ∈ ds, niceD d = true) (hl : ds.length ≤ 1000) : callF allK (lcF (seqF (varD 0)) (nmG 1) yesB (callU 1 v_is_box (consA (varD 1) nilA)) [1]) [some (.pu (.tuple ds)), none] = .ok (.bool (ds.all bxQ)) := by
  have e : lcF (seqF (varD 0)) (nmG 1) yesB (callU 1 v_is_box (consA (varD 1) nilA)) [1] [some (.pu (.tuple ds)), none] = .ok ((ds.map bxQ).map .bool) := by
    rw [lcF_ap, seqF_ap, varD_zero, sqK_t, lcK_ok (by unfold lineOk; exact decide_eq_true (by omega)), List.map_map]
    have := comp_map (i := 1) (fe := callU 1 v_is_box (consA (varD 1) nilA)) (ρ := [some (.pu (.tuple ds)), none]) (g := id) (h := PyData.bool ∘ bxQ) ds fun x hx => isbox_eq (hn x hx)
    rwa [List.map_id] at this
  rw [callF_ap, e, R.ok_bind, allK_map, List.all_map]
  rfl
theorem check_all_eq {ds : List D} (hn : ∀ d ∈ ds, niceD d = true) (hl : ds.length ≤ 1000) : v_check_boxes_all [.tuple ds] = if ds.all bxQ = true then .ok .none else .ex "BadBox" := by
  show fnK (b_check_boxes_all [some (.pu (.tuple ds)), none]) = _
  unfold b_check_boxes_all
  rw [ifO_ap, notB_ap, asF_ap, boxes_all hn hl, asB_ok, notK_ok]
  cases ds.all bxQ <;> rfl
theorem check_eq2 {ds : List D} (hn : ∀ d ∈ ds, niceD d = true) (hl : ds.length ≤ 60) : v_check_boxes [.tuple ds] = if ds.all bxQ = true then .ok .none else .ex "BadBoxes" := by
  show fnK (b_check_boxes [some (.pu (.tuple ds)), none]) = _
  unfold b_check_boxes
  have hlen : decide ((60 : Int) < (ds.length : Nat)) = false := decide_eq_false (by omega)
  rw [ifO_ap, orB_ap, not_f (as_t (by simp [isiK, tyName, kit_tt])), orK_f, orB_ap, as_f (by simp only [bin2_ap, callF_ap, consA_ap, varD_zero, nilA_ap, cnK_ok, R.ok_bind, lenK_tuple, cD_ap, k2_ok, gtD_int, hlen]), orK_f, notB_ap, asF_ap, boxes_all hn (by omega), asB_ok, notK_ok]
  cases ds.all bxQ <;> rfl
theorem check_long {ds : List D} (hl : 60 < ds.length) : v_check_boxes [.tuple ds] = .ex "BadBoxes" := by
  show fnK (b_check_boxes [some (.pu (.tuple ds)), none]) = _
  unfold b_check_boxes
  have hlen : decide ((60 : Int) < (ds.length : Nat)) = true := decide_eq_true (by omega)
  rw [ifO_ap, orB_ap, not_f (as_t (by simp [isiK, tyName, kit_tt])), orK_f, orB_ap, as_t (by simp only [bin2_ap, callF_ap, consA_ap, varD_zero, nilA_ap, cnK_ok, R.ok_bind, lenK_tuple, cD_ap, k2_ok, gtD_int, hlen]), orK_t]
  rfl
theorem check_nt {d : D} (h : ∀ ρ, isiD "tuple" (varD 0) (some (.pu d) :: ρ) = .ok (.bool false)) : v_check_boxes [d] = .ex "BadBoxes" := by
  show fnK (b_check_boxes [some (.pu d), none]) = _
  unfold b_check_boxes
  rw [ifO_ap, orB_ap, notB_ap, asF_ap, h, asB_ok, notK_ok]
  rfl
theorem nt_none (ρ : EnvS) : isiD "tuple" (varD 0) (some (.pu .none) :: ρ) = .ok (.bool false) := by simp [isiK, tyName, kit_nt]
theorem nt_int (i : Int) (ρ : EnvS) : isiD "tuple" (varD 0) (some (.pu (.int i)) :: ρ) = .ok (.bool false) := by simp [isiK, tyName, kit_it]
theorem nt_list (ds : List D) (ρ : EnvS) : isiD "tuple" (varD 0) (some (.pu (.list ds)) :: ρ) = .ok (.bool false) := by simp [isiK, tyName, kit_lt]
section
variable {a t c : D} {x : Str}
theorem row_bad (h : v_check_boxes [a] = .ex x) : v_sweep_row [a] = .ex x := by
  show fnK (b_sweep_row [some (.pu a)]) = _
  unfold b_sweep_row
  rw [sqO_ap, exO_ap, show callU 1 v_check_boxes (consA (varD 0) nilA) [some (.pu a)] = .ex x from h]
  rfl
theorem pairs_bad (h : v_check_boxes [a] = .ex x) : v_sweep_pairs [a] = .ex x := by
  unfold v_sweep_pairs
  rw [fnR_ap]
  unfold b_sweep_pairs
  rw [sqO_ap, exO_ap, show callU 1 v_check_boxes (consA (varD 0) nilA) (argS _ [a]) = .ex x from h]
  rfl
theorem tree_bad (h : v_check_boxes [a] = .ex x) : v_tree_of [a] = .ex x := by
  unfold v_tree_of
  rw [fnR_ap]
  unfold b_tree_of
  rw [sqO_ap, exO_ap, show callU 1 v_check_boxes (consA (varD 0) nilA) (argS _ [a]) = .ex x from h]
  rfl
theorem fault_bad (h : v_check_boxes [a] = .ex x) : v_tree_fault [a, t] = .ex x := by
  unfold v_tree_fault
  rw [fnR_ap]
  unfold b_tree_fault
  rw [sqO_ap, exO_ap, show callU 1 v_check_boxes (consA (varD 0) nilA) (argS _ [a, t]) = .ex x from h]
  rfl
theorem chk_bad (h : v_check_boxes [a] = .ex x) : v__check [a, t] = .ex x := by
  unfold v__check
  rw [fnR_ap]
  unfold b__check
  rw [sqO_ap, exO_ap, show callU 1 v_check_boxes (consA (varD 0) nilA) (argS _ [a, t]) = .ex x from h]
  rfl
theorem looked_bad (h : v__check [a, t] = .ex x) : v__looked [a, t, c] = .ex x := by
  unfold v__looked
  rw [fnR_ap]
  unfold b__looked
  rw [sqO_ap, exO_ap, show callU 2 v__check (consA (varD 0) (consA (varD 1) nilA)) (argS _ [a, t, c]) = .ex x from h]
  rfl
theorem found_bad (h : v__looked [a, t, c] = .ex x) : v_found_by [a, t, c] = .ex x := by
  unfold v_found_by
  rw [fnR_ap]
  unfold b_found_by
  rw [rtO_ap, fnK_rtK, callF_ap, callN_ap, asLF_ap, un1_ap, show callU 3 v__looked (consA (varD 0) (consA (varD 1) (consA (varD 2) nilA))) (argS _ [a, t, c]) = .ex x from h]
  rfl
theorem looks_bad (h : v__looked [a, t, c] = .ex x) : v_looks_by [a, t, c] = .ex x := by
  unfold v_looks_by
  rw [fnR_ap]
  unfold b_looks_by
  rw [rtO_ap, fnK_rtK, un1_ap, show callU 3 v__looked (consA (varD 0) (consA (varD 1) (consA (varD 2) nilA))) (argS _ [a, t, c]) = .ex x from h]
  rfl
theorem prs_bad (h : v__check [a, t] = .ex x) : v_pairs_found [a, t] = .ex x := by
  unfold v_pairs_found
  rw [fnR_ap]
  unfold b_pairs_found
  rw [sqO_ap, exO_ap, show callU 2 v__check (consA (varD 0) (consA (varD 1) nilA)) (argS _ [a, t]) = .ex x from h]
  rfl
end
end Mt

namespace Mt
open PySem PySem.Spec PyProof.Rows L2 TD Dn
/-! ### the law's own look at numbers and boxes -/
theorem own_int {x : D} (hx : isDict x = false) (A : Option Sl) : andV (isiD "int" (varD 1)) (notV (isiD "bool" (varD 1))) [A, some (.pu x)] = .ok (.bool (intB x)) := by
  cases x <;> first | (cases hx; done) | simp [isiK, tyName, kit_ii, kit_ib, kit_bi, kit_bb, kit_ti, kit_li, kit_ni, kit_si, intB]
theorem own_ints {x y : D} (hx : isDict x = false) (hy : isDict y = false) : callF allK (lcF (seqF (varD 0)) (nmG 1) yesB (andV (isiD "int" (varD 1)) (notV (isiD "bool" (varD 1)))) [1]) [some (.pu (.tuple [x, y])), none] = .ok (.bool (intB x && intB y)) := by
  rw [callF_ap, lcF_ap, seqF_ap, varD_zero, sqK_t, lcK_ok rfl, compO_cons (ρ1 := [some (.pu (.tuple [x, y])), some (.pu x)]) rfl (own_int hx _) (compO_cons (ρ1 := [some (.pu (.tuple [x, y])), some (.pu y)]) rfl (own_int hy _) rfl)]
  rw [R.ok_bind]
  cases intB x <;> cases intB y <;> rfl
theorem numB_pair (a b : Int) : numB (.tuple [.int a, .int b]) = (decide (1 ≤ b) && decide ((Int.gcd a b : Int) = 1)) := rfl
theorem lisnum_pair {a b : Int} (hb : b.natAbs < 2 ^ 300) : v__law_is_number [.tuple [.int a, .int b]] = .ok (.bool (numB (.tuple [.int a, .int b]))) := by
  show fnK (b__law_is_number [some (.pu (.tuple [.int a, .int b])), none]) = _
  unfold b__law_is_number
  rw [sq_nx (if_skip (or_ff (not_f (as_t (by simp [isiK, tyName, kit_tt]))) (or_ff (as_f (by simp [neD_int])) (not_f (as_t (own_ints rfl rfl))))))]
  rw [rtO_ap, fnK_rtK, andV_ap, show bin2 gtD (bin2 ixD (varD 0) (cD (.int 1))) (cD (.int 0)) [some (.pu (.tuple [.int a, .int b])), none] = .ok (.bool (decide (0 < b))) by
    rw [bin2_ap, bin2_ap, varD_zero, cD_ap, k2_ok, show ixD (.tuple [.int a, .int b]) (.int 1) = .ok (.int b) from rfl, cD_ap, k2_ok, gtD_int]]
  by_cases hb0 : 0 < b
  · rw [decide_eq_true hb0, asB_ok, andVK_t, bin2_ap, show callU 2 v__law_frac (consA (bin2 ixD (varD 0) (cD (.int 0))) (consA (bin2 ixD (varD 0) (cD (.int 1))) nilA)) [some (.pu (.tuple [.int a, .int b])), none] = .ok (N (Rat.divInt a b)) from frac_eq hb0 (Nat.lt_of_lt_of_le hb (Nat.pow_le_pow_right (by omega) (by omega)))]
    rw [varD_zero, k2_ok]
    have e : eqD (N (Rat.divInt a b)) (.tuple [.int a, .int b]) = .ok (.bool (decide ((Rat.divInt a b).num = a) && decide (((Rat.divInt a b).den : Int) = b))) := by
      unfold eqD N
      rw [eqv_two, eqv_int, eqv_int]
      rfl
    rw [e]
    congr 2
    by_cases hg : (Int.gcd a b : Int) = 1
    · obtain ⟨e1, e2⟩ := divInt_N (n := a) (d := b) (c := 1) hb0 (by omega) (by omega)
      rw [Int.mul_one, Int.mul_one] at e1 e2
      rw [e1, e2]
      rw [numB_pair, decide_eq_true hg, decide_eq_true (show 1 ≤ b by omega), decide_eq_true rfl, decide_eq_true rfl]
    · rw [show numB (.tuple [.int a, .int b]) = false by rw [numB_pair, decide_eq_false hg, Bool.and_false]]
      refine Bool.eq_false_iff.mpr fun z => hg ?_
      rw [Bool.and_eq_true, decide_eq_true_eq, decide_eq_true_eq] at z
      have h := numB_N (Rat.divInt a b)
      unfold N at h
      rw [z.1, z.2] at h
      rw [numB_pair, Bool.and_eq_true, decide_eq_true_eq, decide_eq_true_eq] at h
      exact h.2
  · rw [decide_eq_false hb0]
    have : numB (.tuple [.int a, .int b]) = false := by rw [numB_pair, decide_eq_false (by omega), Bool.false_and]
    rw [this]
    rfl
theorem lisnum_eq {d : D} (h : niceD d = true) : v__law_is_number [d] = .ok (.bool (numB d)) := by
  have hd := nice_nd h
  cases d with
  | dict => cases hd
  | tuple ds =>
    match ds, h with
    | [], _ =>
      show fnK (b__law_is_number [some (.pu (.tuple [])), none]) = _
      unfold b__law_is_number
      simp [isiK, tyName, kit_tt, neD_int, numB]
    | [x], _ =>
      show fnK (b__law_is_number [some (.pu (.tuple [x])), none]) = _
      unfold b__law_is_number
      simp [isiK, tyName, kit_tt, neD_int, numB]
    | [x, y], h =>
      obtain ⟨hx, h⟩ := niceL_cons (niceT h)
      obtain ⟨hy, _⟩ := niceL_cons h
      by_cases hi : intB x = true ∧ intB y = true
      · obtain ⟨a, rfl⟩ := intB_inv hi.1
        obtain ⟨b, rfl⟩ := intB_inv hi.2
        exact lisnum_pair (niceI hy)
      · have e0 : (intB x && intB y) = false := by
          refine Bool.eq_false_iff.mpr fun z => hi ?_
          rwa [Bool.and_eq_true] at z
        rw [numB_no (by
          rw [Bool.and_eq_false_iff] at e0
          exact e0)]
        show fnK (b__law_is_number [some (.pu (.tuple [x, y])), none]) = _
        unfold b__law_is_number
        rw [sqO_ap, ifO_ap, orB_ap, not_f (as_t (by simp [isiK, tyName, kit_tt])), orK_f, orB_ap, as_f (by simp [neD_int]), orK_f, notB_ap, asF_ap, own_ints (nice_nd hx) (nice_nd hy), e0, asB_ok, notK_ok]
        rfl
    | x :: y :: z :: r, _ =>
      have hl : decide (((r.length : Int) + 1 + 1 + 1) = 2) = false := decide_eq_false (by omega)
      show fnK (b__law_is_number [some (.pu (.tuple (x :: y :: z :: r))), none]) = _
      unfold b__law_is_number
      simp [isiK, tyName, kit_tt, neD_int, numB, -decide_eq_false_iff_not, hl]
  | _ =>
    unfold v__law_is_number
    rw [fnR_ap]
    unfold b__law_is_number
    simp [argS, isiK, tyName, kit_nt, kit_bt, kit_it, kit_st, kit_lt, numB]
/-! ### spans -/
def twB : D → Bool
  | .tuple [_, _] => true
  | _ => false
theorem twB_inv {d : D} (h : twB d = true) : ∃ x y, d = .tuple [x, y] := by
  unfold twB at h
  split at h
  · exact ⟨_, _, rfl⟩
  · cases h
open Classical in
noncomputable def spQ (d : D) : Bool := decide (IsSp d)
theorem spQ_t {d : D} (h : IsSp d) : spQ d = true := by
  classical
  unfold spQ
  exact decide_eq_true h
theorem spQ_f {d : D} (h : ¬ IsSp d) : spQ d = false := by
  classical
  unfold spQ
  exact decide_eq_false h
theorem own_two {x : D} (hx : isDict x = false) (A : Option Sl) : andV (isiD "tuple" (varD 1)) (bin2 eqD (callF lenK (consA (varD 1) nilA)) (cD (.int 2))) [A, some (.pu x)] = .ok (.bool (twB x)) := by
  cases x with
  | dict => cases hx
  | tuple ds =>
    match ds with
    | [] => simp [isiK, tyName, kit_tt, eqD_int, twB]
    | [x] => simp [isiK, tyName, kit_tt, eqD_int, twB]
    | [x, y] => simp [isiK, tyName, kit_tt, eqD_int, twB]
    | x :: y :: z :: r =>
      have hl : decide (((r.length : Int) + 1 + 1 + 1) = 2) = false := decide_eq_false (by omega)
      simp [isiK, tyName, kit_tt, eqD_int, twB, -decide_eq_false_iff_not, hl]
  | _ => simp [isiK, tyName, kit_nt, kit_bt, kit_it, kit_st, kit_lt, twB]
theorem own_twos {x y : D} (hx : isDict x = false) (hy : isDict y = false) : callF allK (lcF (seqF (varD 0)) (nmG 1) yesB (andV (isiD "tuple" (varD 1)) (bin2 eqD (callF lenK (consA (varD 1) nilA)) (cD (.int 2)))) [1]) [some (.pu (.tuple [x, y])), none] = .ok (.bool (twB x && twB y)) := by
  rw [callF_ap, lcF_ap, seqF_ap, varD_zero, sqK_t, lcK_ok rfl, compO_cons (ρ1 := [some (.pu (.tuple [x, y])), some (.pu x)]) rfl (own_two hx _) (compO_cons (ρ1 := [some (.pu (.tuple [x, y])), some (.pu y)]) rfl (own_two hy _) rfl)]
  rw [R.ok_bind]
  cases twB x <;> cases twB y <;> rfl
theorem own_span {p q : D} (hp : niceD p = true) (hq : niceD q = true) (A : Option Sl) :
    andV (callU 1 v__law_is_number (consA (bin2 ixD (varD 1) (cD (.int 0))) nilA)) (andV (callU 1 v__law_is_number (consA (bin2 ixD (varD 1) (cD (.int 1))) nilA)) (notV (callU 2 v__law_less (consA (bin2 ixD (varD 1) (cD (.int 1))) (consA (bin2 ixD (varD 1) (cD (.int 0))) nilA))))) [A, some (.pu (.tuple [p, q]))] = .ok (.bool (spQ (.tuple [p, q]))) := by
  have e1 : callU 1 v__law_is_number (consA (bin2 ixD (varD 1) (cD (.int 0))) nilA) [A, some (.pu (.tuple [p, q]))] = .ok (.bool (numB p)) := lisnum_eq hp
  have e2 : callU 1 v__law_is_number (consA (bin2 ixD (varD 1) (cD (.int 1))) nilA) [A, some (.pu (.tuple [p, q]))] = .ok (.bool (numB q)) := lisnum_eq hq
  rw [andV_ap, e1]
  cases h1 : numB p with
  | false =>
    rw [spQ_f]
    · rfl
    · rintro ⟨r, s, e, _⟩
      unfold spD at e
      cases e
      rw [numB_N] at h1
      cases h1
  | true =>
    rw [asB_ok, andVK_t, andV_ap, e2]
    cases h2 : numB q with
    | false =>
      rw [spQ_f]
      · rfl
      · rintro ⟨r, s, e, _⟩
        unfold spD at e
        cases e
        rw [numB_N] at h2
        cases h2
    | true =>
      obtain ⟨r, rfl, hr⟩ := num_inv hp h1
      obtain ⟨s, rfl, hs⟩ := num_inv hq h2
      rw [asB_ok, andVK_t, show notV (callU 2 v__law_less (consA (bin2 ixD (varD 1) (cD (.int 1))) (consA (bin2 ixD (varD 1) (cD (.int 0))) nilA))) [A, some (.pu (.tuple [N r, N s]))] = .ok (.bool (!decide (s < r))) by
        rw [notV_ap, show callU 2 v__law_less (consA (bin2 ixD (varD 1) (cD (.int 1))) (consA (bin2 ixD (varD 1) (cD (.int 0))) nilA)) [A, some (.pu (.tuple [N r, N s]))] = .ok (.bool (decide (s < r))) from less_eq hs hr (by omega)]
        rfl]
      by_cases h : s < r
      · rw [decide_eq_true h, spQ_f]
        · rfl
        · rintro ⟨r', s', e, hle, _⟩
          have er : PyData.eqv (.tuple [N r, N s]) (spD r' s') = true := by
            rw [← e, eqv_two, heN, heN]; rfl
          unfold spD at er
          rw [eqv_two, eqv_N, eqv_N, Bool.and_eq_true, decide_eq_true_eq, decide_eq_true_eq] at er
          rw [← er.1, ← er.2] at hle
          exact absurd h (Rat.not_lt.mpr hle)
      · rw [decide_eq_false h]
        show _ = R.ok (PyData.bool (spQ (spD r s)))
        rw [spQ_t ⟨r, s, rfl, Rat.not_lt.mp h, hr, hs⟩]
        rfl
theorem bx_two {x y : D} (h : IsBx (.tuple [x, y])) : IsSp x ∧ IsSp y := by
  obtain ⟨b, e, hb⟩ := h
  unfold bxD at e
  cases e
  exact ⟨⟨_, _, rfl, hb.x, hb.bxl, hb.bxh⟩, ⟨_, _, rfl, hb.y, hb.byl, hb.byh⟩⟩
theorem bxQ_two (x y : D) : bxQ (.tuple [x, y]) = (spQ x && spQ y) := by
  by_cases h1 : IsSp x
  · by_cases h2 : IsSp y
    · rw [bxQ_t (isbox_two h1 h2), spQ_t h1, spQ_t h2]; rfl
    · rw [bxQ_f fun z => h2 (bx_two z).2, spQ_f h2, Bool.and_false]
  · rw [bxQ_f fun z => h1 (bx_two z).1, spQ_f h1, Bool.false_and]
theorem sp_tw {x : D} (h : twB x = false) : spQ x = false := spQ_f fun ⟨p, q, e, _⟩ => by
  rw [e] at h
  cases h
theorem lisbox_eq {d : D} (h : niceD d = true) : v__law_is_box [d] = .ok (.bool (bxQ d)) := by
  have hd := nice_nd h
  cases d with
  | dict => cases hd
  | tuple ds =>
    match ds, h with
    | [], _ =>
      rw [bxQ_f (by rintro ⟨b, e, _⟩; cases e)]
      show fnK (b__law_is_box [some (.pu (.tuple [])), none]) = _
      unfold b__law_is_box
      simp [isiK, tyName, kit_tt, neD_int]
    | [x], _ =>
      rw [bxQ_f (by rintro ⟨b, e, _⟩; cases e)]
      show fnK (b__law_is_box [some (.pu (.tuple [x])), none]) = _
      unfold b__law_is_box
      simp [isiK, tyName, kit_tt, neD_int]
    | [x, y], h =>
      obtain ⟨hx, h⟩ := niceL_cons (niceT h)
      obtain ⟨hy, _⟩ := niceL_cons h
      show fnK (b__law_is_box [some (.pu (.tuple [x, y])), none]) = _
      unfold b__law_is_box
      rw [bxQ_two]
      cases h1 : (twB x && twB y) with
      | false =>
        rw [show (spQ x && spQ y) = false by
          rw [Bool.and_eq_false_iff] at h1 ⊢
          exact h1.imp sp_tw sp_tw]
        rw [sqO_ap, ifO_ap, orB_ap, not_f (as_t (by simp [isiK, tyName, kit_tt])), orK_f, orB_ap, as_f (by simp [neD_int]), orK_f, notB_ap, asF_ap, own_twos (nice_nd hx) (nice_nd hy), h1, asB_ok, notK_ok]
        rfl
      | true =>
        rw [Bool.and_eq_true] at h1
        obtain ⟨p, q, rfl⟩ := twB_inv h1.1
        obtain ⟨r, s, rfl⟩ := twB_inv h1.2
        obtain ⟨hp, hx⟩ := niceL_cons (niceT hx)
        obtain ⟨hq, _⟩ := niceL_cons hx
        obtain ⟨hr, hy⟩ := niceL_cons (niceT hy)
        obtain ⟨hs, _⟩ := niceL_cons hy
        rw [sq_nx (if_skip (or_ff (not_f (as_t (by simp [isiK, tyName, kit_tt]))) (or_ff (as_f (by simp [neD_int])) (not_f (as_t (own_twos rfl rfl))))))]
        rw [rtO_ap, fnK_rtK, callF_ap, lcF_ap, seqF_ap, varD_zero, sqK_t, lcK_ok rfl, compO_cons (ρ1 := [some (.pu (.tuple [.tuple [p, q], .tuple [r, s]])), some (.pu (.tuple [p, q]))]) rfl (own_span hp hq _) (compO_cons (ρ1 := [some (.pu (.tuple [.tuple [p, q], .tuple [r, s]])), some (.pu (.tuple [r, s]))]) rfl (own_span hr hs _) rfl)]
        rw [R.ok_bind]
        cases spQ (.tuple [p, q]) <;> cases spQ (.tuple [r, s]) <;> rfl
    | x :: y :: z :: r, _ =>
      have hl : decide (((r.length : Int) + 1 + 1 + 1) = 2) = false := decide_eq_false (by omega)
      rw [bxQ_f (by rintro ⟨b, e, _⟩; cases e)]
      show fnK (b__law_is_box [some (.pu (.tuple (x :: y :: z :: r))), none]) = _
      unfold b__law_is_box
      simp [isiK, tyName, kit_tt, neD_int, -decide_eq_false_iff_not, hl]
  | _ =>
    rw [bxQ_f (by rintro ⟨b, e, _⟩; cases e)]
    unfold v__law_is_box
    rw [fnR_ap]
    unfold b__law_is_box
    simp [argS, isiK, tyName, kit_nt, kit_bt, kit_it, kit_st, kit_lt]
end Mt

namespace Mt
open PySem PySem.Spec PyProof.Rows L2 TD Dn
/-! ### what the functions make of boxes, and of others -/
section
variable {bs : List Bx} (hbs : ∀ b ∈ bs, b.Ok) (hl : bs.length ≤ 60)
include hbs hl
theorem row_good : ∃ d, v_sweep_row [.tuple (bs.map bxD)] = .ok d := by
  obtain ⟨l, hp, hs, e⟩ := swept_eq hbs hl
  refine ⟨.tuple (l.map evD), ?_⟩
  show fnK (b_sweep_row [some (.pu (.tuple (bs.map bxD)))]) = _
  unfold b_sweep_row
  rw [sqO_ap, exO_ap, show callU 1 v_check_boxes (consA (varD 0) nilA) [some (.pu (.tuple (bs.map bxD)))] = .ok .none from check_boxes_eq hbs hl, exK_ok, Out.nx_seq, rtO_ap, fnK_rtK, callF_ap, consA_ap, show callU 1 v_swept_by (consA (varD 0) nilA) [some (.pu (.tuple (bs.map bxD)))] = .ok (.list (l.map evD)) from e, nilA_ap, cnK_ok, R.ok_bind, tupK_list]
theorem form_good {d : D} (hn : niceD d = true) (hsz : szD d ≤ 100000) (h : ¬ IsTr 61 d) : v_tree_fault [.tuple (bs.map bxD), d] = .ok (.tuple [.str "form"]) := by
  obtain ⟨p, hp, ep⟩ := is_tree_eq hn hsz
  cases p with
  | true => exact absurd (hp.mp rfl) h
  | false =>
    show fnK (b_tree_fault [some (.pu (.tuple (bs.map bxD))), some (.pu d), none]) = _
    unfold b_tree_fault
    rw [sqO_ap, exO_ap, show callU 1 v_check_boxes (consA (varD 0) nilA) [some (.pu (.tuple (bs.map bxD))), some (.pu d), none] = .ok .none from check_boxes_eq hbs hl, exK_ok, Out.nx_seq, sqO_ap, ifO_ap, notB_ap, asF_ap, show callU 1 v__is_tree (consA (varD 1) nilA) [some (.pu (.tuple (bs.map bxD))), some (.pu d), none] = .ok (.bool false) from ep]
    rfl
theorem chk_tree {d f : D} (h : v_tree_fault [.tuple (bs.map bxD), d] = .ok f) (hf : bin2 notND (fun _ => .ok f) (cD .none) [] = .ok (.bool true)) : v__check [.tuple (bs.map bxD), d] = .ex "BadTree" := by
  show fnK (b__check [some (.pu (.tuple (bs.map bxD))), some (.pu d)]) = _
  unfold b__check
  rw [sqO_ap, exO_ap, show callU 1 v_check_boxes (consA (varD 0) nilA) [some (.pu (.tuple (bs.map bxD))), some (.pu d)] = .ok .none from check_boxes_eq hbs hl, exK_ok, Out.nx_seq, ifO_ap, asF_ap, bin2_ap, show callU 2 v_tree_fault (consA (varD 0) (consA (varD 1) nilA)) [some (.pu (.tuple (bs.map bxD))), some (.pu d)] = .ok f from h]
  rw [bin2_ap] at hf
  rw [cD_ap] at hf ⊢
  rw [hf]
  rfl
end
theorem not_none : ¬ IsTr 61 .none := fun ⟨t, e, _⟩ => by cases t <;> cases e
theorem meet_bad {a b : D} (ha : niceD a = true) (hb : niceD b = true) (h : bxQ a = false ∨ bxQ b = false) : v_boxes_meet [a, b] = .ex "BadBox" := by
  show fnK (b_boxes_meet [some (.pu a), some (.pu b)]) = _
  unfold b_boxes_meet
  have hc : v_check_boxes_all [.tuple [a, b]] = .ex "BadBox" := by
    rw [check_all_eq (fun d hd => by
      rcases List.mem_cons.mp hd with rfl | hd
      · exact ha
      · rw [List.mem_singleton.mp hd]; exact hb) (by simp), if_neg]
    rw [List.all_cons, List.all_cons, List.all_nil, Bool.and_true]
    rcases h with h | h
    · rw [h]; simp
    · rw [h, Bool.and_false]; simp
  rw [sqO_ap, exO_ap, show callU 1 v_check_boxes_all (consA (tupD (consA (varD 0) (consA (varD 1) nilA))) nilA) [some (.pu a), some (.pu b)] = .ex "BadBox" from hc]
  rfl
theorem around_bad {a b : D} (ha : niceD a = true) (hb : niceD b = true) (h : bxQ a = false ∨ bxQ b = false) : v_box_around [.tuple [a, b]] = .ex "BadBox" := by
  show fnK (b_box_around [some (.pu (.tuple [a, b]))]) = _
  unfold b_box_around
  have hc : v_check_boxes_all [.tuple [a, b]] = .ex "BadBox" := by
    rw [check_all_eq (fun d hd => by
      rcases List.mem_cons.mp hd with rfl | hd
      · exact ha
      · rw [List.mem_singleton.mp hd]; exact hb) (by simp), if_neg]
    rw [List.all_cons, List.all_cons, List.all_nil, Bool.and_true]
    rcases h with h | h
    · rw [h]; simp
    · rw [h, Bool.and_false]; simp
  rw [sq_nx (if_skip (or_ff (not_f (as_t (by simp [isiK, tyName, kit_tt]))) (as_f (by simp [eqD_int]))))]
  rw [sqO_ap, exO_ap, show callU 1 v_check_boxes_all (consA (varD 0) nilA) [some (.pu (.tuple [a, b]))] = .ex "BadBox" from hc]
  rfl
theorem boxes_bad {a b : D} (ha : niceD a = true) (hb : niceD b = true) (h : bxQ a = false ∨ bxQ b = false) : v_check_boxes [.tuple [a, b]] = .ex "BadBoxes" := by
  rw [check_eq2 (fun d hd => by
      rcases List.mem_cons.mp hd with rfl | hd
      · exact ha
      · rw [List.mem_singleton.mp hd]; exact hb) (by simp), if_neg]
  rw [List.all_cons, List.all_cons, List.all_nil, Bool.and_true]
  rcases h with h | h
  · rw [h]; simp
  · rw [h, Bool.and_false]; simp
/-! ### a value -/
def OkV (v : D) : Prop := niceD v = true ∧ ((∃ b : Bx, v = bxD b ∧ b.Ok) ∨ bxQ v = false)
def bxS (g : Bool) : Str := if g = true then "none" else "box"
def bxsS (g : Bool) : Str := if g = true then "none" else "boxes"
theorem bxQ_bx {b : Bx} (h : b.Ok) : bxQ (bxD b) = true := bxQ_t ⟨b, rfl, h.vd⟩
section
variable {o : Bx} (ho : o.Ok) {v : D} (hv : OkV v)
include ho hv
theorem val_meet1 : v__law_error [.int 0, v, bxD o, .none] = .ok (.str (bxS (bxQ v))) := by
  rw [err0]
  rcases hv with ⟨hn, ⟨b, rfl, hb⟩ | h⟩
  · rw [boxes_meet_eq hb ho, bxQ_bx hb]; rfl
  · rw [meet_bad hn (nice_bx ho.vd) (.inl h), h, errR_box]; rfl
theorem val_meet2 : v__law_error [.int 0, bxD o, v, .none] = .ok (.str (bxS (bxQ v))) := by
  rw [err0]
  rcases hv with ⟨hn, ⟨b, rfl, hb⟩ | h⟩
  · rw [boxes_meet_eq ho hb, bxQ_bx hb]; rfl
  · rw [meet_bad (nice_bx ho.vd) hn (.inr h), h, errR_box]; rfl
theorem val_around : v__law_error [.int 1, .tuple [bxD o, v], .none, .none] = .ok (.str (bxS (bxQ v))) := by
  rw [err1]
  rcases hv with ⟨hn, ⟨b, rfl, hb⟩ | h⟩
  · rw [show v_box_around [.tuple [bxD o, bxD b]] = .ok (bxD (o.around [b])) from box_around_eq (bs := [b]) (by simp) ho (fun x hx => by rw [List.mem_singleton.mp hx]; exact hb), bxQ_bx hb]; rfl
  · rw [around_bad (nice_bx ho.vd) hn (.inr h), h, errR_box]; rfl
theorem val_boxes : (∀ k : Int, k = 2 ∨ k = 3 ∨ k = 4 ∨ k = 5 → v__law_error [.int k, .tuple [bxD o, v], .none, .none] = .ok (.str (bxsS (bxQ v)))) := by
  rcases hv with ⟨hn, ⟨b, rfl, hb⟩ | h⟩
  · have hbs : ∀ x ∈ [o, b], x.Ok := fun x hx => by
      rcases List.mem_cons.mp hx with rfl | hx
      · exact ho
      · rw [List.mem_singleton.mp hx]; exact hb
    obtain ⟨d, e2⟩ := row_good (bs := [o, b]) hbs (by simp)
    have e3 := sweep_pairs_eq (bs := [o, b]) hbs (by simp)
    obtain ⟨t, -, e4⟩ := tree_eq (bs := [o, b]) hbs (by simp) (by simp)
    have e5 := form_good (bs := [o, b]) hbs (by simp) (d := .none) (by rw [niceD]) (by rw [szD]; omega) not_none
    rw [bxQ_bx hb]
    rintro k (rfl | rfl | rfl | rfl)
    · rw [err2, show v_sweep_row [.tuple [bxD o, bxD b]] = .ok d from e2]; rfl
    · rw [err3, show v_sweep_pairs [.tuple [bxD o, bxD b]] = _ from e3]; rfl
    · rw [err4, show v_tree_of [.tuple [bxD o, bxD b]] = _ from e4]; rfl
    · rw [err5, show v_tree_fault [.tuple [bxD o, bxD b], .none] = _ from e5]; rfl
  · have hc := boxes_bad (nice_bx ho.vd) hn (.inr h)
    rw [h]
    rintro k (rfl | rfl | rfl | rfl)
    · rw [err2, row_bad hc, errR_boxes]; rfl
    · rw [err3, pairs_bad hc, errR_boxes]; rfl
    · rw [err4, tree_bad hc, errR_boxes]; rfl
    · rw [err5, fault_bad hc, errR_boxes]; rfl
end
end Mt

namespace Mt
open PySem PySem.Spec PyProof.Rows L2 TD Dn
noncomputable def BV : EnvS → Out := (sqO (stO 9 (callU 1 v__law_is_box (consA (varD 8) nilA)))
  (sqO (ifO (orB (asF (bin2 neD (callU 1 v_is_box (consA (varD 8) nilA)) (varD 9))) (asF (bin2 eqD (bin2 eqD (callU 4 v__law_error (consA (cD (.int 0)) (consA (varD 8) (consA (varD 3) (consA (cD .none) nilA))))) (cD (.str "box"))) (varD 9))))
  (rtO (cD (.bool false)))
  nxO)
  (sqO (ifO (orB (asF (bin2 eqD (bin2 eqD (callU 4 v__law_error (consA (cD (.int 0)) (consA (varD 3) (consA (varD 8) (consA (cD .none) nilA))))) (cD (.str "box"))) (varD 9))) (asF (bin2 eqD (bin2 eqD (callU 4 v__law_error (consA (cD (.int 1)) (consA (tupD (consA (varD 3) (consA (varD 8) nilA))) (consA (cD .none) (consA (cD .none) nilA))))) (cD (.str "box"))) (varD 9))))
  (rtO (cD (.bool false)))
  nxO)
  (ifO (asF (bin2 neD (lstF (lcF (seqF (tupD (consA (cD (.int 2)) (consA (cD (.int 3)) (consA (cD (.int 4)) (consA (cD (.int 5)) nilA)))))) (nmG 13) yesB (bin2 eqD (callU 4 v__law_error (consA (varD 13) (consA (tupD (consA (varD 3) (consA (varD 8) nilA))) (consA (cD .none) (consA (cD .none) nilA))))) (cD (.str "boxes"))) [13])) (lstF (repL (newD (consA (notV (varD 9)) nilA)) (cD (.int 4))))))
  (rtO (cD (.bool false)))
  nxO))))
noncomputable def V1 : EnvS → R Bool := (orB (asF (bin2 neD (callU 1 v_is_box (consA (varD 8) nilA)) (varD 9))) (asF (bin2 eqD (bin2 eqD (callU 4 v__law_error (consA (cD (.int 0)) (consA (varD 8) (consA (varD 3) (consA (cD .none) nilA))))) (cD (.str "box"))) (varD 9))))
noncomputable def V2 : EnvS → R Bool := (orB (asF (bin2 eqD (bin2 eqD (callU 4 v__law_error (consA (cD (.int 0)) (consA (varD 3) (consA (varD 8) (consA (cD .none) nilA))))) (cD (.str "box"))) (varD 9))) (asF (bin2 eqD (bin2 eqD (callU 4 v__law_error (consA (cD (.int 1)) (consA (tupD (consA (varD 3) (consA (varD 8) nilA))) (consA (cD .none) (consA (cD .none) nilA))))) (cD (.str "box"))) (varD 9))))
noncomputable def V3 : EnvS → R Bool := (asF (bin2 neD (lstF (lcF (seqF (tupD (consA (cD (.int 2)) (consA (cD (.int 3)) (consA (cD (.int 4)) (consA (cD (.int 5)) nilA)))))) (nmG 13) yesB (bin2 eqD (callU 4 v__law_error (consA (varD 13) (consA (tupD (consA (varD 3) (consA (varD 8) nilA))) (consA (cD .none) (consA (cD .none) nilA))))) (cD (.str "boxes"))) [13])) (lstF (repL (newD (consA (notV (varD 9)) nilA)) (cD (.int 4))))))
noncomputable def BOne : EnvS → Out := (sqO (loO (seqF (varD 2)) (nmG 4)
  (ifO (orB (asF (bin2 neD (callU 2 v_boxes_meet (consA (varD 3) (consA (varD 4) nilA))) (callU 2 v__law_meet (consA (varD 3) (consA (varD 4) nilA))))) (asF (bin2 neD (callU 2 v_boxes_meet (consA (varD 3) (consA (varD 4) nilA))) (callU 2 v_boxes_meet (consA (varD 4) (consA (varD 3) nilA))))))
  (rtO (cD (.bool false)))
  nxO))
  (sqO (unO (varD 3) (tupG 2 (consG (nmG 5) (consG (nmG 6) nilG))))
  (sqO (stO 7 (lstF (newD (consA (varD 3) (consA (lstF (callN lstK (consA (varD 3) nilA))) (consA (tupD (consA (varD 5) nilA)) (consA (bin2 addD (varD 3) (tupD (consA (varD 5) nilA))) (consA (tupD (consA (varD 5) (consA (cD .none) nilA))) (consA (cD .none) (consA (cD (.int 7)) (consA (tupD (consA (lstF (callN lstK (consA (varD 5) nilA))) (consA (varD 6) nilA))) (consA (tupD (consA (tupD (consA (bin2 ixD (varD 5) (cD (.int 0))) nilA)) (consA (varD 6) nilA))) (consA (tupD (consA (tupD (consA (bin2 ixD (varD 5) (cD (.int 1))) (consA (bin2 ixD (varD 5) (cD (.int 0))) nilA))) (consA (varD 6) nilA))) (consA (tupD (consA (varD 6) (consA (tupD (consA (bin2 ixD (varD 6) (cD (.int 1))) (consA (bin2 ixD (varD 6) (cD (.int 0))) nilA))) nilA))) nilA))))))))))))))
  (sqO (stO 7 (lstF (catL (asLF (varD 7)) (newD (consA (tupD (consA (tupD (consA (bin2 ixD (varD 5) (cD (.int 0))) (consA (cD (.int 3)) nilA))) (consA (varD 6) nilA))) (consA (tupD (consA (tupD (consA (bin2 ixD (varD 5) (cD (.int 0))) (consA (tupD (consA (cD (.int 2)) (consA (cD (.int 0)) nilA))) nilA))) (consA (varD 6) nilA))) (consA (tupD (consA (tupD (consA (bin2 ixD (varD 5) (cD (.int 0))) (consA (tupD (consA (cD (.bool true)) (consA (cD (.int 1)) nilA))) nilA))) (consA (varD 6) nilA))) (consA (tupD (consA (tupD (consA (bin2 ixD (varD 5) (cD (.int 0))) (consA (tupD (consA (cD (.int 20)) (consA (cD (.int 2)) nilA))) nilA))) (consA (varD 6) nilA))) (consA (tupD (consA (tupD (consA (bin2 ixD (varD 5) (cD (.int 0))) (consA (tupD (consA (cD (.int 99)) (consA (cD (.int 1)) nilA))) nilA))) (consA (varD 6) nilA))) (consA (tupD (consA (tupD (consA (bin2 ixD (varD 5) (cD (.int 0))) (consA (tupD (consA (cD (.int 99)) (consA (un1 negD (cD (.int 1))) nilA))) nilA))) (consA (varD 6) nilA))) nilA))))))))))
  (loO (seqF (varD 7)) (nmG 8)
  (sqO (stO 9 (callU 1 v__law_is_box (consA (varD 8) nilA)))
  (sqO (ifO (orB (asF (bin2 neD (callU 1 v_is_box (consA (varD 8) nilA)) (varD 9))) (asF (bin2 eqD (bin2 eqD (callU 4 v__law_error (consA (cD (.int 0)) (consA (varD 8) (consA (varD 3) (consA (cD .none) nilA))))) (cD (.str "box"))) (varD 9))))
  (rtO (cD (.bool false)))
  nxO)
  (sqO (ifO (orB (asF (bin2 eqD (bin2 eqD (callU 4 v__law_error (consA (cD (.int 0)) (consA (varD 3) (consA (varD 8) (consA (cD .none) nilA))))) (cD (.str "box"))) (varD 9))) (asF (bin2 eqD (bin2 eqD (callU 4 v__law_error (consA (cD (.int 1)) (consA (tupD (consA (varD 3) (consA (varD 8) nilA))) (consA (cD .none) (consA (cD .none) nilA))))) (cD (.str "box"))) (varD 9))))
  (rtO (cD (.bool false)))
  nxO)
  (ifO (asF (bin2 neD (lstF (lcF (seqF (tupD (consA (cD (.int 2)) (consA (cD (.int 3)) (consA (cD (.int 4)) (consA (cD (.int 5)) nilA)))))) (nmG 13) yesB (bin2 eqD (callU 4 v__law_error (consA (varD 13) (consA (tupD (consA (varD 3) (consA (varD 8) nilA))) (consA (cD .none) (consA (cD .none) nilA))))) (cD (.str "boxes"))) [13])) (lstF (repL (newD (consA (notV (varD 9)) nilA)) (cD (.int 4))))))
  (rtO (cD (.bool false)))
  nxO)))))))))
noncomputable def BIn : EnvS → Out := (ifO (orB (asF (bin2 neD (callU 2 v_boxes_meet (consA (varD 3) (consA (varD 4) nilA))) (callU 2 v__law_meet (consA (varD 3) (consA (varD 4) nilA))))) (asF (bin2 neD (callU 2 v_boxes_meet (consA (varD 3) (consA (varD 4) nilA))) (callU 2 v_boxes_meet (consA (varD 4) (consA (varD 3) nilA))))))
  (rtO (cD (.bool false)))
  nxO)
noncomputable def TIn : EnvS → R Bool := (orB (asF (bin2 neD (callU 2 v_boxes_meet (consA (varD 3) (consA (varD 4) nilA))) (callU 2 v__law_meet (consA (varD 3) (consA (varD 4) nilA))))) (asF (bin2 neD (callU 2 v_boxes_meet (consA (varD 3) (consA (varD 4) nilA))) (callU 2 v_boxes_meet (consA (varD 4) (consA (varD 3) nilA))))))
noncomputable def EV1 : EnvS → R D := (lstF (newD (consA (varD 3) (consA (lstF (callN lstK (consA (varD 3) nilA))) (consA (tupD (consA (varD 5) nilA)) (consA (bin2 addD (varD 3) (tupD (consA (varD 5) nilA))) (consA (tupD (consA (varD 5) (consA (cD .none) nilA))) (consA (cD .none) (consA (cD (.int 7)) (consA (tupD (consA (lstF (callN lstK (consA (varD 5) nilA))) (consA (varD 6) nilA))) (consA (tupD (consA (tupD (consA (bin2 ixD (varD 5) (cD (.int 0))) nilA)) (consA (varD 6) nilA))) (consA (tupD (consA (tupD (consA (bin2 ixD (varD 5) (cD (.int 1))) (consA (bin2 ixD (varD 5) (cD (.int 0))) nilA))) (consA (varD 6) nilA))) (consA (tupD (consA (varD 6) (consA (tupD (consA (bin2 ixD (varD 6) (cD (.int 1))) (consA (bin2 ixD (varD 6) (cD (.int 0))) nilA))) nilA))) nilA)))))))))))))
noncomputable def EV2 : EnvS → R D := (lstF (catL (asLF (varD 7)) (newD (consA (tupD (consA (tupD (consA (bin2 ixD (varD 5) (cD (.int 0))) (consA (cD (.int 3)) nilA))) (consA (varD 6) nilA))) (consA (tupD (consA (tupD (consA (bin2 ixD (varD 5) (cD (.int 0))) (consA (tupD (consA (cD (.int 2)) (consA (cD (.int 0)) nilA))) nilA))) (consA (varD 6) nilA))) (consA (tupD (consA (tupD (consA (bin2 ixD (varD 5) (cD (.int 0))) (consA (tupD (consA (cD (.bool true)) (consA (cD (.int 1)) nilA))) nilA))) (consA (varD 6) nilA))) (consA (tupD (consA (tupD (consA (bin2 ixD (varD 5) (cD (.int 0))) (consA (tupD (consA (cD (.int 20)) (consA (cD (.int 2)) nilA))) nilA))) (consA (varD 6) nilA))) (consA (tupD (consA (tupD (consA (bin2 ixD (varD 5) (cD (.int 0))) (consA (tupD (consA (cD (.int 99)) (consA (cD (.int 1)) nilA))) nilA))) (consA (varD 6) nilA))) (consA (tupD (consA (tupD (consA (bin2 ixD (varD 5) (cD (.int 0))) (consA (tupD (consA (cD (.int 99)) (consA (un1 negD (cD (.int 1))) nilA))) nilA))) (consA (varD 6) nilA))) nilA)))))))))
noncomputable def BMany : EnvS → Out := (ifO (orB (asF (bin2 neD (callU 1 v_box_around (consA (slcG (varD 2) noP (someP (varD 10))) nilA)) (callU 1 v__law_around (consA (slcG (varD 2) noP (someP (varD 10))) nilA)))) (notB (asF (callF allK (lcF (seqF (slcG (varD 2) noP (someP (varD 10)))) (nmG 3) yesB (callU 2 v_boxes_meet (consA (callU 1 v_box_around (consA (slcG (varD 2) noP (someP (varD 10))) nilA)) (consA (varD 3) nilA))) [3])))))
  (rtO (cD (.bool false)))
  nxO)
noncomputable def TMany : EnvS → R Bool := (orB (asF (bin2 neD (callU 1 v_box_around (consA (slcG (varD 2) noP (someP (varD 10))) nilA)) (callU 1 v__law_around (consA (slcG (varD 2) noP (someP (varD 10))) nilA)))) (notB (asF (callF allK (lcF (seqF (slcG (varD 2) noP (someP (varD 10)))) (nmG 3) yesB (callU 2 v_boxes_meet (consA (callU 1 v_box_around (consA (slcG (varD 2) noP (someP (varD 10))) nilA)) (consA (varD 3) nilA))) [3])))))
noncomputable def BW1 : EnvS → Out := (ifO (asF (bin2 neD (lstF (lcF (rng2F (cD (.int 2)) (cD (.int 9))) (nmG 13) yesB (callU 4 v__law_error (consA (varD 13) (consA (varD 11) (consA (cD .none) (consA (cD .none) nilA))))) [13])) (lstF (repL (newD (consA (cD (.str "boxes")) nilA)) (cD (.int 7))))))
  (rtO (cD (.bool false)))
  nxO)
noncomputable def TW1 : EnvS → R Bool := (asF (bin2 neD (lstF (lcF (rng2F (cD (.int 2)) (cD (.int 9))) (nmG 13) yesB (callU 4 v__law_error (consA (varD 13) (consA (varD 11) (consA (cD .none) (consA (cD .none) nilA))))) [13])) (lstF (repL (newD (consA (cD (.str "boxes")) nilA)) (cD (.int 7))))))
noncomputable def EW1 : EnvS → R (List D) := (seqF (tupD (consA (cD .none) (consA (cD (.int 7)) (consA (lstF (callN lstK (consA (varD 2) nilA))) (consA (tupD (consA (cD .none) nilA)) (consA (bin2 repTD (varD 2) (cD (.int 6))) nilA)))))))
noncomputable def TE : EnvS → R Bool := (orB (asF (bin2 neD (lstF (lcF (seqF (tupD (consA (cD .none) (consA (tupD nilA) (consA (lstF (callN lstK (consA (varD 2) nilA))) (consA (cD (.int 7)) nilA)))))) (nmG 11) yesB (callU 4 v__law_error (consA (cD (.int 1)) (consA (varD 11) (consA (cD .none) (consA (cD .none) nilA))))) [11])) (lstF (repL (newD (consA (cD (.str "box")) nilA)) (cD (.int 4)))))) (orB (asF (bin2 neD (callU 4 v__law_error (consA (cD (.int 4)) (consA (tupD nilA) (consA (cD .none) (consA (cD .none) nilA))))) (cD (.str "boxes")))) (asF (bin2 neD (callU 4 v__law_error (consA (cD (.int 5)) (consA (tupD nilA) (consA (cD .none) (consA (cD .none) nilA))))) (cD (.str "none"))))))
noncomputable def BW2 : EnvS → Out := (ifO (asF (bin2 neD (lstF (lcF (seqF (tupD (consA (cD (.int 6)) (consA (cD (.int 7)) (consA (cD (.int 8)) nilA))))) (nmG 13) yesB (callU 4 v__law_error (consA (varD 13) (consA (varD 2) (consA (varD 11) (consA (cD .none) nilA))))) [13])) (lstF (repL (newD (consA (cD (.str "tree")) nilA)) (cD (.int 3))))))
  (rtO (cD (.bool false)))
  nxO)
noncomputable def TW2 : EnvS → R Bool := (asF (bin2 neD (lstF (lcF (seqF (tupD (consA (cD (.int 6)) (consA (cD (.int 7)) (consA (cD (.int 8)) nilA))))) (nmG 13) yesB (callU 4 v__law_error (consA (varD 13) (consA (varD 2) (consA (varD 11) (consA (cD .none) nilA))))) [13])) (lstF (repL (newD (consA (cD (.str "tree")) nilA)) (cD (.int 3))))))
noncomputable def EW2 : EnvS → R (List D) := (seqF (tupD (consA (cD .none) (consA (tupD nilA) (consA (tupD (consA (cD (.str "leaf")) (consA (cD (.int 0)) nilA))) (consA (slcG (varD 12) noP (someP (cD (.int 3)))) nilA))))))
noncomputable def BW3 : EnvS → Out := (ifO (asF (bin2 neD (lstF (lcF (seqF (tupD (consA (cD (.int 6)) (consA (cD (.int 7)) nilA)))) (nmG 13) yesB (callU 4 v__law_error (consA (varD 13) (consA (varD 2) (consA (varD 12) (consA (varD 11) nilA))))) [13])) (lstF (repL (newD (consA (cD (.str "box")) nilA)) (cD (.int 2))))))
  (rtO (cD (.bool false)))
  nxO)
noncomputable def TW3 : EnvS → R Bool := (asF (bin2 neD (lstF (lcF (seqF (tupD (consA (cD (.int 6)) (consA (cD (.int 7)) nilA)))) (nmG 13) yesB (callU 4 v__law_error (consA (varD 13) (consA (varD 2) (consA (varD 12) (consA (varD 11) nilA))))) [13])) (lstF (repL (newD (consA (cD (.str "box")) nilA)) (cD (.int 2))))))
noncomputable def EW3 : EnvS → R (List D) := (seqF (tupD (consA (cD .none) (consA (tupD nilA) (consA (slcG (bin2 ixD (varD 2) (cD (.int 0))) noP (someP (cD (.int 1)))) (consA (tupD (consA (tupD (consA (cD (.int 2)) (consA (cD (.int 1)) nilA))) (consA (tupD (consA (cD (.int 3)) (consA (cD (.int 1)) nilA))) nilA))) nilA))))))
noncomputable def RF : EnvS → Out := rtO (cD (.bool false))
theorem bv_eq : BV = sqO (stO 9 (callU 1 v__law_is_box (consA (varD 8) nilA))) (sqO (ifO V1 RF nxO) (sqO (ifO V2 RF nxO) (ifO V3 RF nxO))) := rfl
theorem bin_eq : BIn = ifO TIn RF nxO := rfl
theorem bone_eq : BOne = sqO (loO (seqF (varD 2)) (nmG 4) BIn) (sqO (unO (varD 3) (tupG 2 (consG (nmG 5) (consG (nmG 6) nilG)))) (sqO (stO 7 EV1) (sqO (stO 7 EV2) (loO (seqF (varD 7)) (nmG 8) BV)))) := rfl
theorem law_eq : b_law = sqO (stO 1 (callU 2 v__law_draws (consA (varD 0) (consA (cD (.int 120)) nilA)))) (sqO (stO 2 (callU 2 v__law_boxes (consA (varD 1) (consA (cD (.int 12)) nilA)))) (sqO (loO (seqF (varD 2)) (nmG 3) BOne)
  (sqO (loO (seqF (tupD (consA (cD (.int 1)) (consA (cD (.int 2)) (consA (cD (.int 5)) (consA (cD (.int 12)) nilA)))))) (nmG 10) (ifO TMany RF nxO)) (sqO (loO EW1 (nmG 11) (ifO TW1 RF nxO)) (sqO (ifO TE RF nxO)
  (sqO (stO 12 (callU 1 v_tree_of (consA (varD 2) nilA))) (sqO (loO EW2 (nmG 11) (ifO TW2 RF nxO)) (sqO (loO EW3 (nmG 11) (ifO TW3 RF nxO)) (rtO (cD (.bool true))))))))))) := rfl
/-! ### texts and truths -/
theorem okNone : okD (.str "none") = true := by decide +kernel
theorem okBox : okD (.str "box") = true := by decide +kernel
theorem okBoxes : okD (.str "boxes") = true := by decide +kernel
theorem okTree : okD (.str "tree") = true := by decide +kernel
theorem bxS_eq (g : Bool) : eqD (.str (bxS g)) (.str "box") = .ok (.bool (!g)) := by
  cases g
  · show eqD (.str "box") (.str "box") = _
    rw [eqD_str okBox okBox]; exact congrArg (fun z => R.ok (PyData.bool z)) (by decide +kernel)
  · show eqD (.str "none") (.str "box") = _
    rw [eqD_str okNone okBox]; exact congrArg (fun z => R.ok (PyData.bool z)) (by decide +kernel)
theorem bxsS_eq (g : Bool) : eqD (.str (bxsS g)) (.str "boxes") = .ok (.bool (!g)) := by
  cases g
  · show eqD (.str "boxes") (.str "boxes") = _
    rw [eqD_str okBoxes okBoxes]; exact congrArg (fun z => R.ok (PyData.bool z)) (by decide +kernel)
  · show eqD (.str "none") (.str "boxes") = _
    rw [eqD_str okNone okBoxes]; exact congrArg (fun z => R.ok (PyData.bool z)) (by decide +kernel)
theorem eqv_bl (a b : Bool) : PyData.eqv (.bool a) (.bool b) = (a == b) := by rw [PyData.eqv]
theorem eqD_bl (a b : Bool) : eqD (.bool a) (.bool b) = .ok (.bool (a == b)) := by unfold eqD; rw [eqv_bl]; rfl
theorem neD_bl (a b : Bool) : neD (.bool a) (.bool b) = .ok (.bool (!(a == b))) := by unfold neD; rw [eqv_bl]; rfl
theorem eqv_lst (as bs : List D) : PyData.eqv (.list as) (.list bs) = PyData.eqvAll as bs := by rw [PyData.eqv]
theorem eqvAll_same : ∀ ds : List D, (∀ d ∈ ds, PyData.eqv d d = true) → PyData.eqvAll ds ds = true
  | [], _ => by rw [PyData.eqvAll]
  | d :: ds, h => by rw [PyData.eqvAll, h d List.mem_cons_self, eqvAll_same ds fun e he => h e (List.mem_cons_of_mem _ he)]; rfl
theorem neD_rep {d : D} (n : Nat) (ho : okD (.list (List.replicate n d)) = true) (h : PyData.eqv d d = true) : neD (.list (List.replicate n d)) (.list (List.replicate n d)) = .ok (.bool false) :=
  ne_same ho (by rw [eqv_lst]; exact eqvAll_same _ fun e he => by rw [(List.mem_replicate.mp he).2]; exact h)
section
variable {S D1 B2 z4 z5 z6 z7 z9 z10 z11 z12 z13 : Option Sl} {o : Bx} (ho : o.Ok) {v : D} (hv : OkV v)
include ho hv
theorem v1_f : V1 [S, D1, B2, some (.pu (bxD o)), z4, z5, z6, z7, some (.pu v), some (.pu (.bool (bxQ v))), z10, z11, z12, z13] = .ok false := by
  unfold V1
  refine or_ff (as_f ?_) (as_f ?_)
  · rw [bin2_ap, show callU 1 v_is_box (consA (varD 8) nilA) [S, D1, B2, some (.pu (bxD o)), z4, z5, z6, z7, some (.pu v), some (.pu (.bool (bxQ v))), z10, z11, z12, z13] = .ok (.bool (bxQ v)) from isbox_eq hv.1, show varD 9 [S, D1, B2, some (.pu (bxD o)), z4, z5, z6, z7, some (.pu v), some (.pu (.bool (bxQ v))), z10, z11, z12, z13] = .ok (.bool (bxQ v)) from rfl, k2_ok, neD_bl, beq_self_eq_true]
    rfl
  · rw [bin2_ap, bin2_ap, show callU 4 v__law_error (consA (cD (.int 0)) (consA (varD 8) (consA (varD 3) (consA (cD .none) nilA)))) [S, D1, B2, some (.pu (bxD o)), z4, z5, z6, z7, some (.pu v), some (.pu (.bool (bxQ v))), z10, z11, z12, z13] = .ok (.str (bxS (bxQ v))) from val_meet1 ho hv, cD_ap, k2_ok, bxS_eq, show varD 9 [S, D1, B2, some (.pu (bxD o)), z4, z5, z6, z7, some (.pu v), some (.pu (.bool (bxQ v))), z10, z11, z12, z13] = .ok (.bool (bxQ v)) from rfl, k2_ok, eqD_bl]
    cases bxQ v <;> rfl
theorem v2_f : V2 [S, D1, B2, some (.pu (bxD o)), z4, z5, z6, z7, some (.pu v), some (.pu (.bool (bxQ v))), z10, z11, z12, z13] = .ok false := by
  unfold V2
  refine or_ff (as_f ?_) (as_f ?_)
  · rw [bin2_ap, bin2_ap, show callU 4 v__law_error (consA (cD (.int 0)) (consA (varD 3) (consA (varD 8) (consA (cD .none) nilA)))) [S, D1, B2, some (.pu (bxD o)), z4, z5, z6, z7, some (.pu v), some (.pu (.bool (bxQ v))), z10, z11, z12, z13] = .ok (.str (bxS (bxQ v))) from val_meet2 ho hv, cD_ap, k2_ok, bxS_eq, show varD 9 [S, D1, B2, some (.pu (bxD o)), z4, z5, z6, z7, some (.pu v), some (.pu (.bool (bxQ v))), z10, z11, z12, z13] = .ok (.bool (bxQ v)) from rfl, k2_ok, eqD_bl]
    cases bxQ v <;> rfl
  · rw [bin2_ap, bin2_ap, show callU 4 v__law_error (consA (cD (.int 1)) (consA (tupD (consA (varD 3) (consA (varD 8) nilA))) (consA (cD .none) (consA (cD .none) nilA)))) [S, D1, B2, some (.pu (bxD o)), z4, z5, z6, z7, some (.pu v), some (.pu (.bool (bxQ v))), z10, z11, z12, z13] = .ok (.str (bxS (bxQ v))) from val_around ho hv, cD_ap, k2_ok, bxS_eq, show varD 9 [S, D1, B2, some (.pu (bxD o)), z4, z5, z6, z7, some (.pu v), some (.pu (.bool (bxQ v))), z10, z11, z12, z13] = .ok (.bool (bxQ v)) from rfl, k2_ok, eqD_bl]
    cases bxQ v <;> rfl
theorem way_one {k : Int} (hk : k = 2 ∨ k = 3 ∨ k = 4 ∨ k = 5) : bin2 eqD (callU 4 v__law_error (consA (varD 13) (consA (tupD (consA (varD 3) (consA (varD 8) nilA))) (consA (cD .none) (consA (cD .none) nilA))))) (cD (.str "boxes")) [S, D1, B2, some (.pu (bxD o)), z4, z5, z6, z7, some (.pu v), some (.pu (.bool (bxQ v))), z10, z11, z12, some (.pu (.int k))] = .ok (.bool (!bxQ v)) := by
  rw [bin2_ap, show callU 4 v__law_error (consA (varD 13) (consA (tupD (consA (varD 3) (consA (varD 8) nilA))) (consA (cD .none) (consA (cD .none) nilA)))) [S, D1, B2, some (.pu (bxD o)), z4, z5, z6, z7, some (.pu v), some (.pu (.bool (bxQ v))), z10, z11, z12, some (.pu (.int k))] = .ok (.str (bxsS (bxQ v))) from val_boxes ho hv k hk, cD_ap, k2_ok, bxsS_eq]
theorem v3_f : V3 [S, D1, B2, some (.pu (bxD o)), z4, z5, z6, z7, some (.pu v), some (.pu (.bool (bxQ v))), z10, z11, z12, z13] = .ok false := by
  unfold V3
  refine as_f ?_
  have e1 : lcF (seqF (tupD (consA (cD (.int 2)) (consA (cD (.int 3)) (consA (cD (.int 4)) (consA (cD (.int 5)) nilA)))))) (nmG 13) yesB (bin2 eqD (callU 4 v__law_error (consA (varD 13) (consA (tupD (consA (varD 3) (consA (varD 8) nilA))) (consA (cD .none) (consA (cD .none) nilA))))) (cD (.str "boxes"))) [13] [S, D1, B2, some (.pu (bxD o)), z4, z5, z6, z7, some (.pu v), some (.pu (.bool (bxQ v))), z10, z11, z12, z13] = .ok (List.replicate 4 (.bool (!bxQ v))) := by
    rw [lcF_ap, show seqF (tupD (consA (cD (.int 2)) (consA (cD (.int 3)) (consA (cD (.int 4)) (consA (cD (.int 5)) nilA))))) [S, D1, B2, some (.pu (bxD o)), z4, z5, z6, z7, some (.pu v), some (.pu (.bool (bxQ v))), z10, z11, z12, z13] = .ok [.int 2, .int 3, .int 4, .int 5] from rfl, lcK_ok rfl]
    refine compO_cons (ρ1 := [S, D1, B2, some (.pu (bxD o)), z4, z5, z6, z7, some (.pu v), some (.pu (.bool (bxQ v))), z10, z11, z12, some (.pu (.int 2))]) rfl (way_one ho hv (by omega)) ?_
    refine compO_cons (ρ1 := [S, D1, B2, some (.pu (bxD o)), z4, z5, z6, z7, some (.pu v), some (.pu (.bool (bxQ v))), z10, z11, z12, some (.pu (.int 3))]) rfl (way_one ho hv (by omega)) ?_
    refine compO_cons (ρ1 := [S, D1, B2, some (.pu (bxD o)), z4, z5, z6, z7, some (.pu v), some (.pu (.bool (bxQ v))), z10, z11, z12, some (.pu (.int 4))]) rfl (way_one ho hv (by omega)) ?_
    refine compO_cons (ρ1 := [S, D1, B2, some (.pu (bxD o)), z4, z5, z6, z7, some (.pu v), some (.pu (.bool (bxQ v))), z10, z11, z12, some (.pu (.int 5))]) rfl (way_one ho hv (by omega)) ?_
    rfl
  have e2 : repL (newD (consA (notV (varD 9)) nilA)) (cD (.int 4)) [S, D1, B2, some (.pu (bxD o)), z4, z5, z6, z7, some (.pu v), some (.pu (.bool (bxQ v))), z10, z11, z12, z13] = .ok (List.replicate 4 (.bool (!bxQ v))) := by
    cases bxQ v <;> rfl
  rw [bin2_ap, lstF_ap, lstF_ap, e1, e2, lsK_ok, k2_ok]
  exact neD_rep 4 rfl (by rw [eqv_bl]; exact beq_self_eq_true _)
theorem val_ok : BV [S, D1, B2, some (.pu (bxD o)), z4, z5, z6, z7, some (.pu v), z9, z10, z11, z12, z13] = .nx [S, D1, B2, some (.pu (bxD o)), z4, z5, z6, z7, some (.pu v), some (.pu (.bool (bxQ v))), z10, z11, z12, z13] := by
  rw [bv_eq, sq_nx (st_nx (d := .bool (bxQ v)) (show callU 1 v__law_is_box (consA (varD 8) nilA) [S, D1, B2, some (.pu (bxD o)), z4, z5, z6, z7, some (.pu v), z9, z10, z11, z12, z13] = .ok (.bool (bxQ v)) from lisbox_eq hv.1))]
  simp only [List.set]
  rw [sq_nx (if_skip (v1_f ho hv)), sq_nx (if_skip (v2_f ho hv))]
  exact if_skip (v3_f ho hv)
end
theorem val_loop {S D1 B2 z4 z5 z6 z7 z10 z11 z12 z13 : Option Sl} {o : Bx} (ho : o.Ok) : ∀ (vs : List D) (z8 z9 : Option Sl), (∀ v ∈ vs, OkV v) →
    ∃ w8 w9, forO (nmG 8) BV vs [S, D1, B2, some (.pu (bxD o)), z4, z5, z6, z7, z8, z9, z10, z11, z12, z13] = .nx [S, D1, B2, some (.pu (bxD o)), z4, z5, z6, z7, w8, w9, z10, z11, z12, z13]
  | [], z8, z9, _ => ⟨z8, z9, rfl⟩
  | v :: vs, z8, z9, h => by
    obtain ⟨w8, w9, e⟩ := val_loop (S := S) (D1 := D1) (B2 := B2) (z4 := z4) (z5 := z5) (z6 := z6) (z7 := z7) (z10 := z10) (z11 := z11) (z12 := z12) (z13 := z13) ho vs (some (.pu v)) (some (.pu (.bool (bxQ v)))) (fun x hx => h x (List.mem_cons_of_mem _ hx))
    refine ⟨w8, w9, ?_⟩
    rw [forO_cons (ρ1 := [S, D1, B2, some (.pu (bxD o)), z4, z5, z6, z7, some (.pu v), z9, z10, z11, z12, z13]) rfl (val_ok ho (h v List.mem_cons_self))]
    exact e
end Mt

namespace Mt
open PySem PySem.Spec PyProof.Rows L2 TD Dn
/-! ### the seventeen values -/
def vals1 (b : Bx) : List D := [bxD b, .list [spD b.xl b.xh, spD b.yl b.yh], .tuple [spD b.xl b.xh], .tuple [spD b.xl b.xh, spD b.yl b.yh, spD b.xl b.xh], .tuple [spD b.xl b.xh, .none], .none, .int 7, .tuple [.list [N b.xl, N b.xh], spD b.yl b.yh], .tuple [.tuple [N b.xl], spD b.yl b.yh], .tuple [.tuple [N b.xh, N b.xl], spD b.yl b.yh], .tuple [spD b.yl b.yh, .tuple [N b.yh, N b.yl]]]
def vals2 (b : Bx) : List D := [.tuple [.tuple [N b.xl, .int 3], spD b.yl b.yh], .tuple [.tuple [N b.xl, .tuple [.int 2, .int 0]], spD b.yl b.yh], .tuple [.tuple [N b.xl, .tuple [.bool true, .int 1]], spD b.yl b.yh], .tuple [.tuple [N b.xl, .tuple [.int 20, .int 2]], spD b.yl b.yh], .tuple [.tuple [N b.xl, .tuple [.int 99, .int 1]], spD b.yl b.yh], .tuple [.tuple [N b.xl, .tuple [.int 99, .int (-1)]], spD b.yl b.yh]]
section
variable {S D1 B2 z4 z7 z8 z9 z10 z11 z12 z13 : Option Sl} {b : Bx}
theorem ev1_eq : EV1 [S, D1, B2, some (.pu (bxD b)), z4, some (.pu (spD b.xl b.xh)), some (.pu (spD b.yl b.yh)), z7, z8, z9, z10, z11, z12, z13] = .ok (.list (vals1 b)) := rfl
theorem ev2_eq : EV2 [S, D1, B2, some (.pu (bxD b)), z4, some (.pu (spD b.xl b.xh)), some (.pu (spD b.yl b.yh)), some (.pu (.list (vals1 b))), z8, z9, z10, z11, z12, z13] = .ok (.list (vals1 b ++ vals2 b)) := rfl
end
theorem okV_bx {b : Bx} (h1 : Bd 100 b.xl) (h2 : Bd 100 b.xh) (h3 : Bd 100 b.yl) (h4 : Bd 100 b.yh) : OkV (bxD b) := by
  refine ⟨nice_tup (nice_cons (nice_sp (h1.up (by omega)) (h2.up (by omega))) (nice_cons (nice_sp (h3.up (by omega)) (h4.up (by omega))) nice_nil)), ?_⟩
  by_cases h : IsBx (bxD b)
  · obtain ⟨c, e, hc⟩ := h
    have e2 : PyData.eqv (bxD b) (bxD c) = true := by rw [← e, eqv_bx]; simp
    rw [eqv_bx, Bool.and_eq_true, Bool.and_eq_true, Bool.and_eq_true, decide_eq_true_eq, decide_eq_true_eq, decide_eq_true_eq, decide_eq_true_eq] at e2
    obtain ⟨⟨e3, e4⟩, e5, e6⟩ := e2
    exact .inl ⟨b, rfl, by rw [e3, e4]; exact hc.x, by rw [e5, e6]; exact hc.y, h1, h2, h3, h4⟩
  · exact .inr (bxQ_f h)
theorem okV_no {v : D} (h : niceD v = true) (n : ¬ IsBx v) : OkV v := ⟨h, .inr (bxQ_f n)⟩
theorem no_num {x y z : D} (h : numB y = false) : ¬ IsBx (.tuple [.tuple [x, y], z]) := fun q => by
  obtain ⟨p, r, e, _⟩ := (bx_two q).1
  unfold spD at e
  cases e
  rw [numB_N] at h
  cases h
theorem nice_sm {n : Nat} (h : n < 100000) : niceD (.int n) = true := nice_int (pow_big h)
theorem bd99 : Bd 100 (99 : Rat) := by
  have h : (99 : Nat) < 2 ^ 100 := Nat.lt_of_lt_of_le (show 99 < 2 ^ 7 by decide) (Nat.pow_le_pow_right (by decide) (by decide))
  have h1 : (1 : Nat) < 2 ^ 100 := Nat.lt_of_lt_of_le (show 1 < 2 ^ 7 by decide) (Nat.pow_le_pow_right (by decide) (by decide))
  exact ⟨h, h1⟩
def tlen : D → Nat
  | .tuple ds => ds.length
  | _ => 0
theorem vals_ok {b : Bx} (hb : b.Ok) : ∀ v ∈ vals1 b ++ vals2 b, OkV v := by
  have xl := nice_N (hb.bxl.up (show 100 ≤ 300 by omega))
  have xh := nice_N (hb.bxh.up (show 100 ≤ 300 by omega))
  have yl := nice_N (hb.byl.up (show 100 ≤ 300 by omega))
  have yh := nice_N (hb.byh.up (show 100 ≤ 300 by omega))
  have X : niceD (spD b.xl b.xh) = true := nice_sp (hb.bxl.up (by omega)) (hb.bxh.up (by omega))
  have Y : niceD (spD b.yl b.yh) = true := nice_sp (hb.byl.up (by omega)) (hb.byh.up (by omega))
  have nn : niceD .none = true := by rw [niceD]
  have nt : niceD (.bool true) = true := by rw [niceD]
  have two : ∀ {x y : D}, niceD x = true → niceD y = true → niceD (.tuple [x, y]) = true := fun h1 h2 => nice_tup (nice_cons h1 (nice_cons h2 nice_nil))
  intro v hv
  unfold vals1 vals2 at hv
  simp only [List.cons_append, List.nil_append, List.mem_cons, List.not_mem_nil, or_false] at hv
  rcases hv with rfl | rfl | rfl | rfl | rfl | rfl | rfl | rfl | rfl | rfl | rfl | rfl | rfl | rfl | rfl | rfl | rfl
  · exact okV_bx hb.bxl hb.bxh hb.byl hb.byh
  · exact okV_no (nice_lst (nice_cons X (nice_cons Y nice_nil))) (by rintro ⟨c, e, _⟩; cases e)
  · exact okV_no (nice_tup (nice_cons X nice_nil)) (by rintro ⟨c, e, _⟩; exact absurd (show (1 : Nat) = 2 from congrArg tlen e) (by decide))
  · exact okV_no (nice_tup (nice_cons X (nice_cons Y (nice_cons X nice_nil)))) (by rintro ⟨c, e, _⟩; exact absurd (show (3 : Nat) = 2 from congrArg tlen e) (by decide))
  · exact okV_no (two X nn) (fun q => by obtain ⟨p, r, e, _⟩ := (bx_two q).2; cases e)
  · exact okV_no nn (by rintro ⟨c, e, _⟩; cases e)
  · exact okV_no (nice_sm (n := 7) (by decide)) (by rintro ⟨c, e, _⟩; cases e)
  · exact okV_no (two (nice_lst (nice_cons xl (nice_cons xh nice_nil))) Y) (fun q => by obtain ⟨p, r, e, _⟩ := (bx_two q).1; cases e)
  · exact okV_no (two (nice_tup (nice_cons xl nice_nil)) Y) (fun q => by obtain ⟨p, r, e, _⟩ := (bx_two q).1; exact absurd (show (1 : Nat) = 2 from congrArg tlen e) (by decide))
  · exact okV_bx (b := ⟨b.xh, b.xl, b.yl, b.yh⟩) hb.bxh hb.bxl hb.byl hb.byh
  · exact okV_bx (b := ⟨b.yl, b.yh, b.yh, b.yl⟩) hb.byl hb.byh hb.byh hb.byl
  · exact okV_no (two (two xl (nice_sm (n := 3) (by decide))) Y) (no_num rfl)
  · exact okV_no (two (two xl (two (nice_sm (n := 2) (by decide)) (nice_sm (n := 0) (by decide)))) Y) (no_num (by decide))
  · exact okV_no (two (two xl (two nt (nice_sm (n := 1) (by decide)))) Y) (no_num rfl)
  · exact okV_no (two (two xl (two (nice_sm (n := 20) (by decide)) (nice_sm (n := 2) (by decide)))) Y) (no_num (by decide))
  · exact okV_bx (b := ⟨b.xl, 99, b.yl, b.yh⟩) hb.bxl bd99 hb.byl hb.byh
  · exact okV_no (two (two xl (two (nice_sm (n := 99) (by decide)) (nice_int (pow_big (n := 1) (by decide))))) Y) (no_num (by decide))
/-! ### a box after the other -/
section
variable {S D1 z4 z5 z6 z7 z8 z9 z10 z11 z12 z13 : Option Sl}
theorem in_ok {a b : Bx} (ha : a.Ok) (hb : b.Ok) {B2 : Option Sl} : BIn [S, D1, B2, some (.pu (bxD a)), some (.pu (bxD b)), z5, z6, z7, z8, z9, z10, z11, z12, z13] = .nx [S, D1, B2, some (.pu (bxD a)), some (.pu (bxD b)), z5, z6, z7, z8, z9, z10, z11, z12, z13] := by
  rw [bin_eq]
  refine if_skip ?_
  unfold TIn
  have e1 : callU 2 v_boxes_meet (consA (varD 3) (consA (varD 4) nilA)) [S, D1, B2, some (.pu (bxD a)), some (.pu (bxD b)), z5, z6, z7, z8, z9, z10, z11, z12, z13] = .ok (.bool (xm a b && ym a b)) := boxes_meet_eq ha hb
  have e2 : callU 2 v_boxes_meet (consA (varD 4) (consA (varD 3) nilA)) [S, D1, B2, some (.pu (bxD a)), some (.pu (bxD b)), z5, z6, z7, z8, z9, z10, z11, z12, z13] = .ok (.bool (xm b a && ym b a)) := boxes_meet_eq hb ha
  have e3 : callU 2 v__law_meet (consA (varD 3) (consA (varD 4) nilA)) [S, D1, B2, some (.pu (bxD a)), some (.pu (bxD b)), z5, z6, z7, z8, z9, z10, z11, z12, z13] = .ok (.bool (mtB a b)) := lmeet_eq ha.vd hb.vd
  refine or_ff (as_f ?_) (as_f ?_)
  · rw [bin2_ap, e1, e3, k2_ok, neD_bl]
    unfold mtB
    rw [beq_self_eq_true]; rfl
  · rw [bin2_ap, e1, e2, k2_ok, neD_bl, xm_comm a b, ym_comm a b, beq_self_eq_true]; rfl
theorem in_loop {a : Bx} (ha : a.Ok) {B2 : Option Sl} : ∀ (bs : List Bx) (z4 : Option Sl), (∀ b ∈ bs, b.Ok) → ∃ w4, forO (nmG 4) BIn (bs.map bxD) [S, D1, B2, some (.pu (bxD a)), z4, z5, z6, z7, z8, z9, z10, z11, z12, z13] = .nx [S, D1, B2, some (.pu (bxD a)), w4, z5, z6, z7, z8, z9, z10, z11, z12, z13]
  | [], z4, _ => ⟨z4, rfl⟩
  | b :: bs, z4, h => by
    obtain ⟨w4, e⟩ := in_loop ha (B2 := B2) bs (some (.pu (bxD b))) (fun x hx => h x (List.mem_cons_of_mem _ hx))
    refine ⟨w4, ?_⟩
    rw [List.map_cons, forO_cons (ρ1 := [S, D1, B2, some (.pu (bxD a)), some (.pu (bxD b)), z5, z6, z7, z8, z9, z10, z11, z12, z13]) rfl (in_ok ha (h b List.mem_cons_self))]
    exact e
end
theorem one_ok {S D1 z4 z5 z6 z7 z8 z9 z10 z11 z12 z13 : Option Sl} {a : Bx} (ha : a.Ok) {bs : List Bx} (hbs : ∀ b ∈ bs, b.Ok) : ∃ w4 w5 w6 w7 w8 w9, BOne [S, D1, some (.pu (.tuple (bs.map bxD))), some (.pu (bxD a)), z4, z5, z6, z7, z8, z9, z10, z11, z12, z13] = .nx [S, D1, some (.pu (.tuple (bs.map bxD))), some (.pu (bxD a)), w4, w5, w6, w7, w8, w9, z10, z11, z12, z13] := by
  obtain ⟨w4, e⟩ := in_loop (S := S) (D1 := D1) (z5 := z5) (z6 := z6) (z7 := z7) (z8 := z8) (z9 := z9) (z10 := z10) (z11 := z11) (z12 := z12) (z13 := z13) ha (B2 := some (.pu (.tuple (bs.map bxD)))) bs z4 hbs
  obtain ⟨w8, w9, e2⟩ := val_loop (S := S) (D1 := D1) (B2 := some (.pu (.tuple (bs.map bxD)))) (z4 := w4) (z5 := some (.pu (spD a.xl a.xh))) (z6 := some (.pu (spD a.yl a.yh))) (z7 := some (.pu (.list (vals1 a ++ vals2 a)))) (z10 := z10) (z11 := z11) (z12 := z12) (z13 := z13) ha (vals1 a ++ vals2 a) z8 z9 (vals_ok ha)
  refine ⟨w4, some (.pu (spD a.xl a.xh)), some (.pu (spD a.yl a.yh)), some (.pu (.list (vals1 a ++ vals2 a))), w8, w9, ?_⟩
  rw [bone_eq, sq_nx (ρ1 := [S, D1, some (.pu (.tuple (bs.map bxD))), some (.pu (bxD a)), w4, z5, z6, z7, z8, z9, z10, z11, z12, z13]) (by
    rw [loO_ap, seqF_ap, show varD 2 [S, D1, some (.pu (.tuple (bs.map bxD))), some (.pu (bxD a)), z4, z5, z6, z7, z8, z9, z10, z11, z12, z13] = .ok (.tuple (bs.map bxD)) from rfl, sqK_t, loK_ok]
    exact e)]
  rw [sq_nx (show unO (varD 3) (tupG 2 (consG (nmG 5) (consG (nmG 6) nilG))) [S, D1, some (.pu (.tuple (bs.map bxD))), some (.pu (bxD a)), w4, z5, z6, z7, z8, z9, z10, z11, z12, z13] = .nx [S, D1, some (.pu (.tuple (bs.map bxD))), some (.pu (bxD a)), w4, some (.pu (spD a.xl a.xh)), some (.pu (spD a.yl a.yh)), z7, z8, z9, z10, z11, z12, z13] from rfl)]
  rw [sq_nx (st_nx ev1_eq)]
  simp only [List.set]
  rw [sq_nx (st_nx ev2_eq)]
  simp only [List.set]
  rw [loO_ap, show seqF (varD 7) [S, D1, some (.pu (.tuple (bs.map bxD))), some (.pu (bxD a)), w4, some (.pu (spD a.xl a.xh)), some (.pu (spD a.yl a.yh)), some (.pu (.list (vals1 a ++ vals2 a))), z8, z9, z10, z11, z12, z13] = .ok (vals1 a ++ vals2 a) from rfl, loK_ok]
  exact e2
theorem one_loop {S D1 z10 z11 z12 z13 : Option Sl} {bs : List Bx} (hbs : ∀ b ∈ bs, b.Ok) : ∀ (cs : List Bx) (z3 z4 z5 z6 z7 z8 z9 : Option Sl), (∀ c ∈ cs, c.Ok) → ∃ w3 w4 w5 w6 w7 w8 w9, forO (nmG 3) BOne (cs.map bxD) [S, D1, some (.pu (.tuple (bs.map bxD))), z3, z4, z5, z6, z7, z8, z9, z10, z11, z12, z13] = .nx [S, D1, some (.pu (.tuple (bs.map bxD))), w3, w4, w5, w6, w7, w8, w9, z10, z11, z12, z13]
  | [], z3, z4, z5, z6, z7, z8, z9, _ => ⟨z3, z4, z5, z6, z7, z8, z9, rfl⟩
  | c :: cs, z3, z4, z5, z6, z7, z8, z9, h => by
    obtain ⟨u4, u5, u6, u7, u8, u9, e⟩ := one_ok (S := S) (D1 := D1) (z4 := z4) (z5 := z5) (z6 := z6) (z7 := z7) (z8 := z8) (z9 := z9) (z10 := z10) (z11 := z11) (z12 := z12) (z13 := z13) (h c List.mem_cons_self) hbs
    obtain ⟨w3, w4, w5, w6, w7, w8, w9, e2⟩ := one_loop (S := S) (D1 := D1) (z10 := z10) (z11 := z11) (z12 := z12) (z13 := z13) hbs cs (some (.pu (bxD c))) u4 u5 u6 u7 u8 u9 (fun x hx => h x (List.mem_cons_of_mem _ hx))
    refine ⟨w3, w4, w5, w6, w7, w8, w9, ?_⟩
    rw [List.map_cons, forO_cons (ρ1 := [S, D1, some (.pu (.tuple (bs.map bxD))), some (.pu (bxD c)), z4, z5, z6, z7, z8, z9, z10, z11, z12, z13]) rfl e]
    exact e2
end Mt

namespace Mt
open PySem PySem.Spec PyProof.Rows L2 TD Dn
theorem around_partT {b : Bx} {bs : List Bx} {k : Int} {lo hi : Bx → Rat} (hl : bs.length ≤ 1000) (h : Bd 300 (lo b) ∧ Bd 300 (hi b)) (h2 : ∀ x ∈ bs, Bd 300 (lo x) ∧ Bd 300 (hi x)) (hk : ∀ x : Bx, ixD (bxD x) (.int k) = .ok (spD (lo x) (hi x))) :
    tupD (consA (callU 2 v__law_edge (consA (lstF (lcF (seqF (varD 0)) (nmG 2) yesB (bin2 ixD (bin2 ixD (varD 2) (varD 1)) (cD (.int 0))) [2])) (consA (cD (.bool false)) nilA))) (consA (callU 2 v__law_edge (consA (lstF (lcF (seqF (varD 0)) (nmG 2) yesB (bin2 ixD (bin2 ixD (varD 2) (varD 1)) (cD (.int 1))) [2])) (consA (cD (.bool true)) nilA))) nilA)) [some (.pu (.tuple ((b :: bs).map bxD))), some (.pu (.int k)), none] = .ok (spD ((bs.map lo).foldl mnR (lo b)) ((bs.map hi).foldl mxR (hi b))) := by
  have hlen : lineOk ((b :: bs).map bxD).length = true := by unfold lineOk; rw [List.length_map, List.length_cons]; exact decide_eq_true (by omega)
  have e1 : lcF (seqF (varD 0)) (nmG 2) yesB (bin2 ixD (bin2 ixD (varD 2) (varD 1)) (cD (.int 0))) [2] [some (.pu (.tuple ((b :: bs).map bxD))), some (.pu (.int k)), none] = .ok ((lo b :: bs.map lo).map N) := by
    rw [lcF_ap, seqF_ap, varD_zero, sqK_t, lcK_ok hlen]
    refine (comp_map (h := fun x => N (lo x)) (b :: bs) fun x _ => ?_).trans ?_
    · simp only [wipeS_cons, wipeS_nil, List.set, bin2_ap, varD_succ, varD_zero, cD_ap, k2_ok, hk, ixS0]
    · rw [← List.map_cons, List.map_map]; rfl
  have e2 : lcF (seqF (varD 0)) (nmG 2) yesB (bin2 ixD (bin2 ixD (varD 2) (varD 1)) (cD (.int 1))) [2] [some (.pu (.tuple ((b :: bs).map bxD))), some (.pu (.int k)), none] = .ok ((hi b :: bs.map hi).map N) := by
    rw [lcF_ap, seqF_ap, varD_zero, sqK_t, lcK_ok hlen]
    refine (comp_map (h := fun x => N (hi x)) (b :: bs) fun x _ => ?_).trans ?_
    · simp only [wipeS_cons, wipeS_nil, List.set, bin2_ap, varD_succ, varD_zero, cD_ap, k2_ok, hk, ixS1]
    · rw [← List.map_cons, List.map_map]; rfl
  have l1 := edge_eq (m := false) (q := lo b) (qs := bs.map lo) h.1 (fun x hx => by obtain ⟨y, hy, rfl⟩ := List.mem_map.mp hx; exact (h2 y hy).1)
  have l2 := edge_eq (m := true) (q := hi b) (qs := bs.map hi) h.2 (fun x hx => by obtain ⟨y, hy, rfl⟩ := List.mem_map.mp hx; exact (h2 y hy).2)
  rw [tupD_ap, consA_ap, callU_ap, consA_ap, lstF_ap, e1, lsK_ok, consA_ap, cD_ap, nilA_ap, cnK_ok, cnK_ok, cuK_2, l1, consA_ap, callU_ap, consA_ap, lstF_ap, e2, lsK_ok, consA_ap, cD_ap, nilA_ap, cnK_ok, cnK_ok, cuK_2, l2]
  rfl
theorem laround_tup {b : Bx} {bs : List Bx} (hl : bs.length ≤ 1000) (h : b.Vd) (h2 : ∀ x ∈ bs, x.Vd) : v__law_around [.tuple ((b :: bs).map bxD)] = .ok (bxD (b.around bs)) := by
  show fnK (b__law_around [some (.pu (.tuple ((b :: bs).map bxD))), none, none]) = _
  unfold b__law_around
  rw [rtO_ap, fnK_rtK, callF_ap, lcF_ap, show seqF (tupD (consA (cD (.int 0)) (consA (cD (.int 1)) nilA))) [some (.pu (.tuple ((b :: bs).map bxD))), none, none] = .ok [.int 0, .int 1] from rfl, lcK_ok rfl]
  have p0 := around_partT (k := 0) (lo := Bx.xl) (hi := Bx.xh) hl ⟨h.bxl, h.bxh⟩ (fun x hx => ⟨(h2 x hx).bxl, (h2 x hx).bxh⟩) (fun x => rfl)
  have p1 := around_partT (k := 1) (lo := Bx.yl) (hi := Bx.yh) hl ⟨h.byl, h.byh⟩ (fun x hx => ⟨(h2 x hx).byl, (h2 x hx).byh⟩) (fun x => rfl)
  rw [compO_cons (ρ1 := [some (.pu (.tuple ((b :: bs).map bxD))), some (.pu (.int 0)), none]) rfl p0 (compO_cons (ρ1 := [some (.pu (.tuple ((b :: bs).map bxD))), some (.pu (.int 1)), none]) rfl p1 rfl)]
  rfl

/-! ### around several -/
section
variable {S D1 z3 z4 z5 z6 z7 z8 z9 z11 z12 z13 : Option Sl} {bs : List Bx} (hbs : ∀ b ∈ bs, b.Ok) (hl : bs.length ≤ 20)
include hbs hl
theorem many_f {m : Nat} (h1 : 1 ≤ m) (h0 : bs ≠ []) : TMany [S, D1, some (.pu (.tuple (bs.map bxD))), z3, z4, z5, z6, z7, z8, z9, some (.pu (.int (m : Nat))), z11, z12, z13] = .ok false := by
  obtain ⟨b, cs, eb⟩ : ∃ b cs, bs.take m = b :: cs := by
    obtain ⟨m', rfl⟩ : ∃ k, m = k + 1 := ⟨m - 1, by omega⟩
    cases bs with
    | nil => exact absurd rfl h0
    | cons x xs => exact ⟨x, xs.take m', by rw [List.take_succ_cons]⟩
  have hmem : ∀ x ∈ b :: cs, x.Ok := fun x hx => hbs x (List.mem_of_mem_take (by rw [eb]; exact hx))
  have ob := hmem b List.mem_cons_self
  have ocs : ∀ x ∈ cs, x.Ok := fun x hx => hmem x (List.mem_cons_of_mem _ hx)
  have hcl : cs.length ≤ 20 := by
    have h := congrArg List.length eb
    rw [List.length_take, List.length_cons] at h
    omega
  have oA := around_ok ob ocs
  have es : ∀ w3 : Option Sl, slcG (varD 2) noP (someP (varD 10)) [S, D1, some (.pu (.tuple (bs.map bxD))), w3, z4, z5, z6, z7, z8, z9, some (.pu (.int (m : Nat))), z11, z12, z13] = .ok (.tuple ((b :: cs).map bxD)) := fun w3 => by
    rw [slcG_ap]
    show slK (.ok (.tuple (bs.map bxD))) (.ok none) (.ok (some ((m : Nat) : Int))) = _
    rw [slK_t, cut_take, ← List.map_take, eb]
  have ea : ∀ w3 : Option Sl, callU 1 v_box_around (consA (slcG (varD 2) noP (someP (varD 10))) nilA) [S, D1, some (.pu (.tuple (bs.map bxD))), w3, z4, z5, z6, z7, z8, z9, some (.pu (.int (m : Nat))), z11, z12, z13] = .ok (bxD (b.around cs)) := fun w3 => by
    rw [callU_ap, consA_ap, es, nilA_ap, cnK_ok, cuK_1, box_around_eq (by omega) ob ocs]
  have el : callU 1 v__law_around (consA (slcG (varD 2) noP (someP (varD 10))) nilA) [S, D1, some (.pu (.tuple (bs.map bxD))), z3, z4, z5, z6, z7, z8, z9, some (.pu (.int (m : Nat))), z11, z12, z13] = .ok (bxD (b.around cs)) := by
    rw [callU_ap, consA_ap, es, nilA_ap, cnK_ok, cuK_1, laround_tup (by omega) ob.vd fun x hx => (ocs x hx).vd]
  unfold TMany
  refine or_ff (as_f ?_) (not_f (as_t ?_))
  · rw [bin2_ap, ea, el, k2_ok, ne_same rfl (by rw [eqv_bx]; simp)]
  · have ec : lcF (seqF (slcG (varD 2) noP (someP (varD 10)))) (nmG 3) yesB (callU 2 v_boxes_meet (consA (callU 1 v_box_around (consA (slcG (varD 2) noP (someP (varD 10))) nilA)) (consA (varD 3) nilA))) [3] [S, D1, some (.pu (.tuple (bs.map bxD))), z3, z4, z5, z6, z7, z8, z9, some (.pu (.int (m : Nat))), z11, z12, z13] = .ok (((b :: cs).map fun _ => true).map .bool) := by
      rw [lcF_ap, seqF_ap, es, sqK_t, lcK_ok (by unfold lineOk; rw [List.length_map, List.length_cons]; exact decide_eq_true (by omega)), List.map_map]
      refine comp_map (h := fun _ => .bool true) (b :: cs) fun x hx => ?_
      simp only [wipeS_cons, wipeS_nil, List.set]
      have hm := boxes_meet_eq oA (hmem x hx)
      have hw : (xm (b.around cs) x && ym (b.around cs) x) = true := by
        have h1 := mt_wi ⟨(hmem x hx).x, (hmem x hx).y⟩ (around_in hx)
        unfold mtB at h1
        rw [xm_comm, ym_comm]
        exact h1
      rw [hw] at hm
      rw [callU_ap, consA_ap, ea (some (.pu (bxD x)))]
      exact hm
    rw [callF_ap, ec, R.ok_bind, allK_map]
    refine congrArg (fun z => R.ok (PyData.bool z)) ?_
    rw [List.all_map]
    exact List.all_eq_true.mpr fun _ _ => rfl
end
/-! ### what is no row of boxes -/
theorem way_boxes {w : D} (h : v_check_boxes [w] = .ex "BadBoxes") {k : Int} (hk : 2 ≤ k ∧ k ≤ 8) : v__law_error [.int k, w, .none, .none] = .ok (.str "boxes") := by
  have hc : v__check [w, .none] = .ex "BadBoxes" := chk_bad h
  rcases (show k = 2 ∨ k = 3 ∨ k = 4 ∨ k = 5 ∨ k = 6 ∨ k = 7 ∨ k = 8 by omega) with rfl | rfl | rfl | rfl | rfl | rfl | rfl
  · rw [err2, row_bad h, errR_boxes]
  · rw [err3, pairs_bad h, errR_boxes]
  · rw [err4, tree_bad h, errR_boxes]
  · rw [err5, fault_bad h, errR_boxes]
  · rw [err6, found_bad (looked_bad hc), errR_boxes]
  · rw [err7, looks_bad (looked_bad hc), errR_boxes]
  · rw [err8, prs_bad hc, errR_boxes]
theorem eqv_st (s : Str) : PyData.eqv (.str s) (.str s) = true := by rw [eqv_str]; exact beq_self_eq_true s
theorem w1_f {S D1 B2 z3 z4 z5 z6 z7 z8 z9 z10 z12 z13 : Option Sl} {w : D} (h : v_check_boxes [w] = .ex "BadBoxes") : TW1 [S, D1, B2, z3, z4, z5, z6, z7, z8, z9, z10, some (.pu w), z12, z13] = .ok false := by
  unfold TW1
  refine as_f ?_
  have st : ∀ k : Int, 2 ≤ k ∧ k ≤ 8 → callU 4 v__law_error (consA (varD 13) (consA (varD 11) (consA (cD .none) (consA (cD .none) nilA)))) [S, D1, B2, z3, z4, z5, z6, z7, z8, z9, z10, some (.pu w), z12, some (.pu (.int k))] = .ok (.str "boxes") := fun k hk => way_boxes h hk
  have e1 : lcF (rng2F (cD (.int 2)) (cD (.int 9))) (nmG 13) yesB (callU 4 v__law_error (consA (varD 13) (consA (varD 11) (consA (cD .none) (consA (cD .none) nilA))))) [13] [S, D1, B2, z3, z4, z5, z6, z7, z8, z9, z10, some (.pu w), z12, z13] = .ok (List.replicate 7 (.str "boxes")) := by
    rw [lcF_ap, show rng2F (cD (.int 2)) (cD (.int 9)) [S, D1, B2, z3, z4, z5, z6, z7, z8, z9, z10, some (.pu w), z12, z13] = .ok [.int 2, .int 3, .int 4, .int 5, .int 6, .int 7, .int 8] from rfl, lcK_ok rfl]
    refine compO_cons (ρ1 := [S, D1, B2, z3, z4, z5, z6, z7, z8, z9, z10, some (.pu w), z12, some (.pu (.int 2))]) rfl (st 2 (by omega)) ?_
    refine compO_cons (ρ1 := [S, D1, B2, z3, z4, z5, z6, z7, z8, z9, z10, some (.pu w), z12, some (.pu (.int 3))]) rfl (st 3 (by omega)) ?_
    refine compO_cons (ρ1 := [S, D1, B2, z3, z4, z5, z6, z7, z8, z9, z10, some (.pu w), z12, some (.pu (.int 4))]) rfl (st 4 (by omega)) ?_
    refine compO_cons (ρ1 := [S, D1, B2, z3, z4, z5, z6, z7, z8, z9, z10, some (.pu w), z12, some (.pu (.int 5))]) rfl (st 5 (by omega)) ?_
    refine compO_cons (ρ1 := [S, D1, B2, z3, z4, z5, z6, z7, z8, z9, z10, some (.pu w), z12, some (.pu (.int 6))]) rfl (st 6 (by omega)) ?_
    refine compO_cons (ρ1 := [S, D1, B2, z3, z4, z5, z6, z7, z8, z9, z10, some (.pu w), z12, some (.pu (.int 7))]) rfl (st 7 (by omega)) ?_
    refine compO_cons (ρ1 := [S, D1, B2, z3, z4, z5, z6, z7, z8, z9, z10, some (.pu w), z12, some (.pu (.int 8))]) rfl (st 8 (by omega)) ?_
    rfl
  rw [bin2_ap, lstF_ap, lstF_ap, e1, lsK_ok, show repL (newD (consA (cD (.str "boxes")) nilA)) (cD (.int 7)) [S, D1, B2, z3, z4, z5, z6, z7, z8, z9, z10, some (.pu w), z12, z13] = .ok (List.replicate 7 (.str "boxes")) from rfl, lsK_ok, k2_ok]
  exact neD_rep 7 (by decide +kernel) (eqv_st _)
end Mt

namespace Mt
open PySem PySem.Spec PyProof.Rows L2 TD Dn
/-! ### rows that are none -/
theorem if_loop {T : EnvS → R Bool} {i : Nat} {ρ : EnvS} (hi : i < ρ.length) : ∀ (ds : List D) (z : Option Sl), (∀ d ∈ ds, T (ρ.set i (some (.pu d))) = .ok false) → ∃ w, forO (nmG i) (ifO T RF nxO) ds (ρ.set i z) = .nx (ρ.set i w)
  | [], z, _ => ⟨z, rfl⟩
  | d :: ds, z, h => by
    obtain ⟨w, e⟩ := if_loop hi ds (some (.pu d)) (fun x hx => h x (List.mem_cons_of_mem _ hx))
    refine ⟨w, ?_⟩
    rw [forO_cons (ρ1 := ρ.set i (some (.pu d))) (by show nmG i d (ρ.set i z) = _; unfold nmG; rw [List.set_set]) (if_skip (h d List.mem_cons_self))]
    exact e
theorem rows_bad {bs : List Bx} (hl : bs.length = 12) : ∀ w ∈ [PyData.none, .int 7, .list (bs.map bxD), .tuple [.none], .tuple (List.replicate 6 (bs.map bxD)).flatten], v_check_boxes [w] = .ex "BadBoxes" := by
  intro w hw
  simp only [List.mem_cons, List.not_mem_nil, or_false] at hw
  rcases hw with rfl | rfl | rfl | rfl | rfl
  · exact check_nt nt_none
  · exact check_nt (nt_int 7)
  · exact check_nt (nt_list _)
  · have nn : niceD .none = true := by rw [niceD]
    rw [check_eq2 (fun d hd => by rw [List.mem_singleton.mp hd]; exact nn) (by simp), if_neg]
    rw [List.all_cons, bxQ_f (d := .none) (by rintro ⟨c, e, _⟩; cases e)]
    simp
  · refine check_long ?_
    rw [List.length_flatten, List.map_replicate, List.length_map, hl]
    decide
theorem ew1_eq {S D1 z3 z4 z5 z6 z7 z8 z9 z10 z11 z12 z13 : Option Sl} {bs : List Bx} (hl : bs.length = 12) : EW1 [S, D1, some (.pu (.tuple (bs.map bxD))), z3, z4, z5, z6, z7, z8, z9, z10, z11, z12, z13] = .ok [PyData.none, .int 7, .list (bs.map bxD), .tuple [.none], .tuple (List.replicate 6 (bs.map bxD)).flatten] := by
  have er : bin2 repTD (varD 2) (cD (.int 6)) [S, D1, some (.pu (.tuple (bs.map bxD))), z3, z4, z5, z6, z7, z8, z9, z10, z11, z12, z13] = .ok (.tuple (List.replicate 6 (bs.map bxD)).flatten) := by
    show repTD (.tuple (bs.map bxD)) (.int 6) = _
    unfold repTD
    dsimp only
    have c : bs.map bxD ≠ [] ∧ (2 : Int) ≤ 6 ∧ (6 : Int) ≤ 1000 ∧ (bs.map bxD).length ≤ 1000 := by
      refine ⟨fun z => ?_, by decide, by decide, by rw [List.length_map, hl]; decide⟩
      have h := congrArg List.length z
      rw [List.length_map, hl] at h
      exact absurd h (by decide)
    rw [if_pos (decide_eq_true c)]
    rfl
  have es : lstF (callN lstK (consA (varD 2) nilA)) [S, D1, some (.pu (.tuple (bs.map bxD))), z3, z4, z5, z6, z7, z8, z9, z10, z11, z12, z13] = .ok (.list (bs.map bxD)) := rfl
  unfold EW1
  rw [seqF_ap, tupD_ap, consA_ap, consA_ap, consA_ap, consA_ap, consA_ap, er, es]
  rfl
theorem around_nt {d : D} (h : ∀ ρ, isiD "tuple" (varD 0) (some (.pu d) :: ρ) = .ok (.bool false)) : v_box_around [d] = .ex "BadBox" := by
  show fnK (b_box_around [some (.pu d)]) = _
  unfold b_box_around
  rw [sqO_ap, ifO_ap, orB_ap, notB_ap, asF_ap, h, asB_ok, notK_ok]
  rfl
theorem around_nil : v_box_around [.tuple []] = .ex "BadBox" := by
  show fnK (b_box_around [some (.pu (.tuple []))]) = _
  unfold b_box_around
  rw [sqO_ap, ifO_ap, orB_ap, not_f (as_t (by simp [isiK, tyName, kit_tt])), orK_f, as_t (by simp [eqD_int])]
  rfl
theorem tree_nil : v_tree_of [.tuple []] = .ex "BadBoxes" := by
  have hc : v_check_boxes [.tuple []] = .ok .none := check_boxes_eq (bs := []) (fun b hb => absurd hb List.not_mem_nil) (by simp)
  show fnK (b_tree_of [some (.pu (.tuple []))]) = _
  unfold b_tree_of
  rw [sqO_ap, exO_ap, show callU 1 v_check_boxes (consA (varD 0) nilA) [some (.pu (.tuple []))] = .ok .none from hc, exK_ok, Out.nx_seq, sqO_ap, ifO_ap, as_t (by simp [eqD_int])]
  rfl
theorem te_f {S D1 z3 z4 z5 z6 z7 z8 z9 z10 z11 z12 z13 : Option Sl} {bs : List Bx} : TE [S, D1, some (.pu (.tuple (bs.map bxD))), z3, z4, z5, z6, z7, z8, z9, z10, z11, z12, z13] = .ok false := by
  unfold TE
  refine or_ff (as_f ?_) (or_ff (as_f ?_) (as_f ?_))
  · have e1 : lcF (seqF (tupD (consA (cD .none) (consA (tupD nilA) (consA (lstF (callN lstK (consA (varD 2) nilA))) (consA (cD (.int 7)) nilA)))))) (nmG 11) yesB (callU 4 v__law_error (consA (cD (.int 1)) (consA (varD 11) (consA (cD .none) (consA (cD .none) nilA))))) [11] [S, D1, some (.pu (.tuple (bs.map bxD))), z3, z4, z5, z6, z7, z8, z9, z10, z11, z12, z13] = .ok (List.replicate 4 (.str "box")) := by
      rw [lcF_ap, show seqF (tupD (consA (cD .none) (consA (tupD nilA) (consA (lstF (callN lstK (consA (varD 2) nilA))) (consA (cD (.int 7)) nilA))))) [S, D1, some (.pu (.tuple (bs.map bxD))), z3, z4, z5, z6, z7, z8, z9, z10, z11, z12, z13] = .ok [.none, .tuple [], .list (bs.map bxD), .int 7] from rfl, lcK_ok rfl]
      have st : ∀ w : D, v_box_around [w] = .ex "BadBox" → callU 4 v__law_error (consA (cD (.int 1)) (consA (varD 11) (consA (cD .none) (consA (cD .none) nilA)))) [S, D1, some (.pu (.tuple (bs.map bxD))), z3, z4, z5, z6, z7, z8, z9, z10, some (.pu w), z12, z13] = .ok (.str "box") := fun w hw => by
        show v__law_error [.int 1, w, .none, .none] = _
        rw [err1, hw, errR_box]
      refine compO_cons (ρ1 := [S, D1, some (.pu (.tuple (bs.map bxD))), z3, z4, z5, z6, z7, z8, z9, z10, some (.pu .none), z12, z13]) rfl (st _ (around_nt nt_none)) ?_
      refine compO_cons (ρ1 := [S, D1, some (.pu (.tuple (bs.map bxD))), z3, z4, z5, z6, z7, z8, z9, z10, some (.pu (.tuple [])), z12, z13]) rfl (st _ around_nil) ?_
      refine compO_cons (ρ1 := [S, D1, some (.pu (.tuple (bs.map bxD))), z3, z4, z5, z6, z7, z8, z9, z10, some (.pu (.list (bs.map bxD))), z12, z13]) rfl (st _ (around_nt (nt_list _))) ?_
      refine compO_cons (ρ1 := [S, D1, some (.pu (.tuple (bs.map bxD))), z3, z4, z5, z6, z7, z8, z9, z10, some (.pu (.int 7)), z12, z13]) rfl (st _ (around_nt (nt_int 7))) ?_
      rfl
    rw [bin2_ap, lstF_ap, lstF_ap, e1, lsK_ok, show repL (newD (consA (cD (.str "box")) nilA)) (cD (.int 4)) [S, D1, some (.pu (.tuple (bs.map bxD))), z3, z4, z5, z6, z7, z8, z9, z10, z11, z12, z13] = .ok (List.replicate 4 (.str "box")) from rfl, lsK_ok, k2_ok]
    exact neD_rep 4 (by decide +kernel) (eqv_st _)
  · rw [bin2_ap, show callU 4 v__law_error (consA (cD (.int 4)) (consA (tupD nilA) (consA (cD .none) (consA (cD .none) nilA)))) [S, D1, some (.pu (.tuple (bs.map bxD))), z3, z4, z5, z6, z7, z8, z9, z10, z11, z12, z13] = .ok (.str "boxes") by
      show v__law_error [.int 4, .tuple [], .none, .none] = _
      rw [err4, tree_nil, errR_boxes]]
    rw [cD_ap, k2_ok]
    exact ne_same okBoxes (eqv_st _)
  · rw [bin2_ap, show callU 4 v__law_error (consA (cD (.int 5)) (consA (tupD nilA) (consA (cD .none) (consA (cD .none) nilA)))) [S, D1, some (.pu (.tuple (bs.map bxD))), z3, z4, z5, z6, z7, z8, z9, z10, z11, z12, z13] = .ok (.str "none") by
      show v__law_error [.int 5, .tuple [], .none, .none] = _
      rw [err5, show v_tree_fault [.tuple [], .none] = _ from form_good (bs := []) (fun b hb => absurd hb List.not_mem_nil) (by simp) (d := .none) (by rw [niceD]) (by rw [szD]; omega) not_none]
      rfl]
    rw [cD_ap, k2_ok]
    exact ne_same okNone (eqv_st _)
/-! ### trees that are none -/
section
variable {bs : List Bx} (hbs : ∀ b ∈ bs, b.Ok) (hl : bs.length = 12)
include hbs hl
theorem way_tree {w : D} (h : v__check [.tuple (bs.map bxD), w] = .ex "BadTree") {k : Int} (hk : 6 ≤ k ∧ k ≤ 8) : v__law_error [.int k, .tuple (bs.map bxD), w, .none] = .ok (.str "tree") := by
  rcases (show k = 6 ∨ k = 7 ∨ k = 8 by omega) with rfl | rfl | rfl
  · rw [err6, found_bad (looked_bad h), errR_tree]
  · rw [err7, looks_bad (looked_bad h), errR_tree]
  · rw [err8, prs_bad h, errR_tree]
theorem w2_f {S D1 z3 z4 z5 z6 z7 z8 z9 z10 z12 z13 : Option Sl} {w : D} (h : v__check [.tuple (bs.map bxD), w] = .ex "BadTree") : TW2 [S, D1, some (.pu (.tuple (bs.map bxD))), z3, z4, z5, z6, z7, z8, z9, z10, some (.pu w), z12, z13] = .ok false := by
  unfold TW2
  refine as_f ?_
  have st : ∀ k : Int, 6 ≤ k ∧ k ≤ 8 → callU 4 v__law_error (consA (varD 13) (consA (varD 2) (consA (varD 11) (consA (cD .none) nilA)))) [S, D1, some (.pu (.tuple (bs.map bxD))), z3, z4, z5, z6, z7, z8, z9, z10, some (.pu w), z12, some (.pu (.int k))] = .ok (.str "tree") := fun k hk => way_tree hbs hl h hk
  have e1 : lcF (seqF (tupD (consA (cD (.int 6)) (consA (cD (.int 7)) (consA (cD (.int 8)) nilA))))) (nmG 13) yesB (callU 4 v__law_error (consA (varD 13) (consA (varD 2) (consA (varD 11) (consA (cD .none) nilA))))) [13] [S, D1, some (.pu (.tuple (bs.map bxD))), z3, z4, z5, z6, z7, z8, z9, z10, some (.pu w), z12, z13] = .ok (List.replicate 3 (.str "tree")) := by
    rw [lcF_ap, show seqF (tupD (consA (cD (.int 6)) (consA (cD (.int 7)) (consA (cD (.int 8)) nilA)))) [S, D1, some (.pu (.tuple (bs.map bxD))), z3, z4, z5, z6, z7, z8, z9, z10, some (.pu w), z12, z13] = .ok [.int 6, .int 7, .int 8] from rfl, lcK_ok rfl]
    refine compO_cons (ρ1 := [S, D1, some (.pu (.tuple (bs.map bxD))), z3, z4, z5, z6, z7, z8, z9, z10, some (.pu w), z12, some (.pu (.int 6))]) rfl (st 6 (by omega)) ?_
    refine compO_cons (ρ1 := [S, D1, some (.pu (.tuple (bs.map bxD))), z3, z4, z5, z6, z7, z8, z9, z10, some (.pu w), z12, some (.pu (.int 7))]) rfl (st 7 (by omega)) ?_
    refine compO_cons (ρ1 := [S, D1, some (.pu (.tuple (bs.map bxD))), z3, z4, z5, z6, z7, z8, z9, z10, some (.pu w), z12, some (.pu (.int 8))]) rfl (st 8 (by omega)) ?_
    rfl
  rw [bin2_ap, lstF_ap, lstF_ap, e1, lsK_ok, show repL (newD (consA (cD (.str "tree")) nilA)) (cD (.int 3)) [S, D1, some (.pu (.tuple (bs.map bxD))), z3, z4, z5, z6, z7, z8, z9, z10, some (.pu w), z12, z13] = .ok (List.replicate 3 (.str "tree")) from rfl, lsK_ok, k2_ok]
  exact neD_rep 3 (by decide +kernel) (eqv_st _)
theorem no_form {w : D} (hn : niceD w = true) (hs : szD w ≤ 100000) (h : ¬ IsTr 61 w) : v__check [.tuple (bs.map bxD), w] = .ex "BadTree" :=
  chk_tree hbs (by omega) (form_good hbs (by omega) hn hs h) rfl
theorem no_leaf : v__check [.tuple (bs.map bxD), .tuple [.str "leaf", .int 0]] = .ex "BadTree" := by
  have hv : (Tr.leaf 0).Vd := pow_big (n := 0) (by decide)
  have e := tf_tree (t := .leaf 0) hbs (by omega) (nice_tr hv) (by show szD (.tuple [.str "leaf", .int 0]) ≤ 100000; rw [szD, szL, szL, szL, szD, szD]; omega) (by decide) hv (by decide)
  rw [show dueT bs (.leaf 0) = .tuple [.str "leaves"] by
    unfold dueT
    rw [if_neg]
    intro z
    have h := congrArg List.length z
    rw [rgI_eq, List.length_map, List.length_range, hl] at h
    have h2 : (sortI [0]).length = 1 := by rw [← sortI_eq (ns := [0]) (ms := [0]) (.refl _) (List.pairwise_singleton _ _)]; rfl
    rw [show (Tr.leaf 0).lv = [0] from rfl, h2] at h
    cases h] at e
  exact chk_tree hbs (by omega) e rfl
end
end Mt

namespace Mt
open PySem PySem.Spec PyProof.Rows L2 TD Dn
section
variable {bs : List Bx} (hbs : ∀ b ∈ bs, b.Ok) (hl : bs.length = 12) {t : Tr} (hr : Rr bs t)
include hbs hl hr
theorem tree_fork : ∃ b l r, t = .fork b l r := by
  have h := lv_len hbs (by omega) hr
  cases t with
  | leaf k => rw [hl] at h; cases h
  | fork b l r => exact ⟨b, l, r, rfl⟩
theorem trees_bad {b : Bx} {l r : Tr} (ht : t = .fork b l r) : ∀ w ∈ [PyData.none, .tuple [], .tuple [.str "leaf", .int 0], .tuple [.str "fork", bxD b, treD l]], v__check [.tuple (bs.map bxD), w] = .ex "BadTree" := by
  intro w hw
  simp only [List.mem_cons, List.not_mem_nil, or_false] at hw
  rcases hw with rfl | rfl | rfl | rfl
  · exact no_form hbs hl (by rw [niceD]) (by rw [szD]; omega) not_none
  · refine no_form hbs hl (nice_tup nice_nil) (by rw [szD, szL]; omega) ?_
    rintro ⟨t, e, _⟩
    cases t with
    | leaf k => exact absurd (show (0 : Nat) = 2 from congrArg tlen e) (by decide)
    | fork b l r => exact absurd (show (0 : Nat) = 4 from congrArg tlen e) (by decide)
  · exact no_leaf hbs hl
  · subst ht
    have hn := hr.nice
    have hs := hr.sz
    rw [show treD (.fork b l r) = .tuple [.str "fork", bxD b, treD l, treD r] from rfl] at hn hs
    obtain ⟨n1, hn⟩ := niceL_cons (niceT hn)
    obtain ⟨n2, hn⟩ := niceL_cons hn
    obtain ⟨n3, hn⟩ := niceL_cons hn
    rw [szD, szL, szL, szL, szL, szL] at hs
    refine no_form hbs hl (nice_tup (nice_cons n1 (nice_cons n2 (nice_cons n3 nice_nil)))) (by rw [szD, szL, szL, szL, szL]; omega) ?_
    rintro ⟨t, e, _⟩
    cases t with
    | leaf k => exact absurd (show (3 : Nat) = 2 from congrArg tlen e) (by decide)
    | fork b l r => exact absurd (show (3 : Nat) = 4 from congrArg tlen e) (by decide)
theorem looked_no {c : D} (hn : niceD c = true) (h : bxQ c = false) : v__looked [.tuple (bs.map bxD), treD t, c] = .ex "BadBox" := by
  show fnK (b__looked [some (.pu (.tuple (bs.map bxD))), some (.pu (treD t)), some (.pu c), none]) = _
  unfold b__looked
  rw [sqO_ap, exO_ap, show callU 2 v__check (consA (varD 0) (consA (varD 1) nilA)) [some (.pu (.tuple (bs.map bxD))), some (.pu (treD t)), some (.pu c), none] = .ok .none from check_eq hbs (by omega) hr, exK_ok, Out.nx_seq, sqO_ap, ifO_ap, notB_ap, asF_ap, show callU 1 v_is_box (consA (varD 2) nilA) [some (.pu (.tuple (bs.map bxD))), some (.pu (treD t)), some (.pu c), none] = .ok (.bool (bxQ c)) from isbox_eq hn, h]
  rfl
theorem w3_f {S D1 z3 z4 z5 z6 z7 z8 z9 z10 z13 : Option Sl} {c : D} (hn : niceD c = true) (h : bxQ c = false) : TW3 [S, D1, some (.pu (.tuple (bs.map bxD))), z3, z4, z5, z6, z7, z8, z9, z10, some (.pu c), some (.pu (treD t)), z13] = .ok false := by
  have hk := looked_no hbs hl hr hn h
  unfold TW3
  refine as_f ?_
  have e1 : lcF (seqF (tupD (consA (cD (.int 6)) (consA (cD (.int 7)) nilA)))) (nmG 13) yesB (callU 4 v__law_error (consA (varD 13) (consA (varD 2) (consA (varD 12) (consA (varD 11) nilA))))) [13] [S, D1, some (.pu (.tuple (bs.map bxD))), z3, z4, z5, z6, z7, z8, z9, z10, some (.pu c), some (.pu (treD t)), z13] = .ok (List.replicate 2 (.str "box")) := by
    rw [lcF_ap, show seqF (tupD (consA (cD (.int 6)) (consA (cD (.int 7)) nilA))) [S, D1, some (.pu (.tuple (bs.map bxD))), z3, z4, z5, z6, z7, z8, z9, z10, some (.pu c), some (.pu (treD t)), z13] = .ok [.int 6, .int 7] from rfl, lcK_ok rfl]
    refine compO_cons (ρ1 := [S, D1, some (.pu (.tuple (bs.map bxD))), z3, z4, z5, z6, z7, z8, z9, z10, some (.pu c), some (.pu (treD t)), some (.pu (.int 6))]) rfl (v := .str "box") ?_ ?_
    · show v__law_error [.int 6, .tuple (bs.map bxD), treD t, c] = _
      rw [err6, found_bad hk, errR_box]
    refine compO_cons (ρ1 := [S, D1, some (.pu (.tuple (bs.map bxD))), z3, z4, z5, z6, z7, z8, z9, z10, some (.pu c), some (.pu (treD t)), some (.pu (.int 7))]) rfl (v := .str "box") ?_ ?_
    · show v__law_error [.int 7, .tuple (bs.map bxD), treD t, c] = _
      rw [err7, looks_bad hk, errR_box]
    rfl
  rw [bin2_ap, lstF_ap, lstF_ap, e1, lsK_ok, show repL (newD (consA (cD (.str "box")) nilA)) (cD (.int 2)) [S, D1, some (.pu (.tuple (bs.map bxD))), z3, z4, z5, z6, z7, z8, z9, z10, some (.pu c), some (.pu (treD t)), z13] = .ok (List.replicate 2 (.str "box")) from rfl, lsK_ok, k2_ok]
  exact neD_rep 2 (by decide +kernel) (eqv_st _)
end
theorem boxes_no {b : Bx} (hb : b.Ok) : ∀ c ∈ [PyData.none, .tuple [], .tuple [spD b.xl b.xh], .tuple [.tuple [.int 2, .int 1], .tuple [.int 3, .int 1]]], niceD c = true ∧ bxQ c = false := by
  intro c hc
  have X : niceD (spD b.xl b.xh) = true := nice_sp (hb.bxl.up (by omega)) (hb.bxh.up (by omega))
  have two : ∀ {x y : D}, niceD x = true → niceD y = true → niceD (.tuple [x, y]) = true := fun h1 h2 => nice_tup (nice_cons h1 (nice_cons h2 nice_nil))
  simp only [List.mem_cons, List.not_mem_nil, or_false] at hc
  rcases hc with rfl | rfl | rfl | rfl
  · exact ⟨by rw [niceD], bxQ_f (by rintro ⟨d, e, _⟩; cases e)⟩
  · exact ⟨nice_tup nice_nil, bxQ_f (by rintro ⟨d, e, _⟩; cases e)⟩
  · exact ⟨nice_tup (nice_cons X nice_nil), bxQ_f (by rintro ⟨d, e, _⟩; exact absurd (show (1 : Nat) = 2 from congrArg tlen e) (by decide))⟩
  · exact ⟨two (two (nice_sm (n := 2) (by decide)) (nice_sm (n := 1) (by decide))) (two (nice_sm (n := 3) (by decide)) (nice_sm (n := 1) (by decide))), bxQ_f fun q => by obtain ⟨p, r, e, _⟩ := (bx_two q).1; cases e⟩
theorem law_true (ns : List Int) (h : ns.length ≤ 63) : v_law [scrD ns] = .ok (.bool true) := by
  obtain ⟨ds, hd, hg, e0⟩ := draws_eq ns 120 (by decide)
  obtain ⟨bs, hl, hbs, e1⟩ := boxes_eq (ds := ds) (fun x hx => (hg x hx).1) (by omega) (m := 12) (by omega)
  have h0 : bs ≠ [] := List.length_pos_iff.mp (by omega)
  obtain ⟨b0, br, rfl⟩ : ∃ b br, bs = b :: br := by
    cases bs with
    | nil => exact absurd rfl h0
    | cons b br => exact ⟨b, br, rfl⟩
  obtain ⟨t, ho, e2⟩ := tree_eq hbs h0 (by omega)
  have hr := right_of hbs h0 (by omega) ho
  obtain ⟨tb, tl, tr, ht⟩ := tree_fork hbs hl hr
  obtain ⟨w3, w4, w5, w6, w7, w8, w9, l1⟩ := one_loop (S := some (.pu (scrD ns))) (D1 := some (.pu (.list (ds.map .int)))) (z10 := none) (z11 := none) (z12 := none) (z13 := none) hbs (b0 :: br) none none none none none none none hbs
  obtain ⟨w10, l2⟩ := if_loop (T := TMany) (i := 10) (ρ := [some (.pu (scrD ns)), some (.pu (.list (ds.map .int))), some (.pu (.tuple ((b0 :: br).map bxD))), w3, w4, w5, w6, w7, w8, w9, none, none, none, none]) (by simp) [.int 1, .int 2, .int 5, .int 12] none (fun d hd => by
    simp only [List.mem_cons, List.not_mem_nil, or_false] at hd
    rcases hd with rfl | rfl | rfl | rfl
    · exact many_f hbs (by omega) (m := 1) (by omega) h0
    · exact many_f hbs (by omega) (m := 2) (by omega) h0
    · exact many_f hbs (by omega) (m := 5) (by omega) h0
    · exact many_f hbs (by omega) (m := 12) (by omega) h0)
  obtain ⟨w11, l3⟩ := if_loop (T := TW1) (i := 11) (ρ := [some (.pu (scrD ns)), some (.pu (.list (ds.map .int))), some (.pu (.tuple ((b0 :: br).map bxD))), w3, w4, w5, w6, w7, w8, w9, w10, none, none, none]) (by simp) [PyData.none, .int 7, .list ((b0 :: br).map bxD), .tuple [.none], .tuple (List.replicate 6 ((b0 :: br).map bxD)).flatten] none (fun d hd => w1_f (rows_bad hl d hd))
  obtain ⟨w11', l4⟩ := if_loop (T := TW2) (i := 11) (ρ := [some (.pu (scrD ns)), some (.pu (.list (ds.map .int))), some (.pu (.tuple ((b0 :: br).map bxD))), w3, w4, w5, w6, w7, w8, w9, w10, none, some (.pu (treD t)), none]) (by simp) [PyData.none, .tuple [], .tuple [.str "leaf", .int 0], .tuple [.str "fork", bxD tb, treD tl]] w11 (fun d hd => w2_f hbs hl (trees_bad hbs hl hr ht d hd))
  obtain ⟨w11'', l5⟩ := if_loop (T := TW3) (i := 11) (ρ := [some (.pu (scrD ns)), some (.pu (.list (ds.map .int))), some (.pu (.tuple ((b0 :: br).map bxD))), w3, w4, w5, w6, w7, w8, w9, w10, none, some (.pu (treD t)), none]) (by simp) [PyData.none, .tuple [], .tuple [spD b0.xl b0.xh], .tuple [.tuple [.int 2, .int 1], .tuple [.int 3, .int 1]]] w11' (fun d hd => w3_f hbs hl hr (boxes_no (hbs b0 List.mem_cons_self) d hd).1 (boxes_no (hbs b0 List.mem_cons_self) d hd).2)
  simp only [List.set] at l2 l3 l4 l5
  show fnK (b_law [some (.pu (scrD ns)), none, none, none, none, none, none, none, none, none, none, none, none, none]) = _
  rw [law_eq]
  rw [sq_nx (st_nx (d := .list (ds.map .int)) (show callU 2 v__law_draws (consA (varD 0) (consA (cD (.int 120)) nilA)) [some (.pu (scrD ns)), none, none, none, none, none, none, none, none, none, none, none, none, none] = .ok (.list (ds.map .int)) from e0))]
  simp only [List.set]
  rw [sq_nx (st_nx (d := .tuple ((b0 :: br).map bxD)) (show callU 2 v__law_boxes (consA (varD 1) (consA (cD (.int 12)) nilA)) [some (.pu (scrD ns)), some (.pu (.list (ds.map .int))), none, none, none, none, none, none, none, none, none, none, none, none] = .ok (.tuple ((b0 :: br).map bxD)) from e1))]
  simp only [List.set]
  rw [sq_nx (show loO (seqF (varD 2)) (nmG 3) BOne [some (.pu (scrD ns)), some (.pu (.list (ds.map .int))), some (.pu (.tuple ((b0 :: br).map bxD))), none, none, none, none, none, none, none, none, none, none, none] = _ from (by rw [loO_ap, show seqF (varD 2) [some (.pu (scrD ns)), some (.pu (.list (ds.map .int))), some (.pu (.tuple ((b0 :: br).map bxD))), none, none, none, none, none, none, none, none, none, none, none] = .ok ((b0 :: br).map bxD) from rfl, loK_ok]; exact l1))]
  rw [sq_nx (show loO (seqF (tupD (consA (cD (.int 1)) (consA (cD (.int 2)) (consA (cD (.int 5)) (consA (cD (.int 12)) nilA)))))) (nmG 10) (ifO TMany RF nxO) [some (.pu (scrD ns)), some (.pu (.list (ds.map .int))), some (.pu (.tuple ((b0 :: br).map bxD))), w3, w4, w5, w6, w7, w8, w9, none, none, none, none] = _ from (by rw [loO_ap, show seqF (tupD (consA (cD (.int 1)) (consA (cD (.int 2)) (consA (cD (.int 5)) (consA (cD (.int 12)) nilA))))) [some (.pu (scrD ns)), some (.pu (.list (ds.map .int))), some (.pu (.tuple ((b0 :: br).map bxD))), w3, w4, w5, w6, w7, w8, w9, none, none, none, none] = .ok [.int 1, .int 2, .int 5, .int 12] from rfl, loK_ok]; exact l2))]
  rw [sq_nx (show loO EW1 (nmG 11) (ifO TW1 RF nxO) [some (.pu (scrD ns)), some (.pu (.list (ds.map .int))), some (.pu (.tuple ((b0 :: br).map bxD))), w3, w4, w5, w6, w7, w8, w9, w10, none, none, none] = _ from (by rw [loO_ap, ew1_eq hl, loK_ok]; exact l3))]
  rw [sq_nx (if_skip te_f)]
  rw [sq_nx (st_nx (show callU 1 v_tree_of (consA (varD 2) nilA) [some (.pu (scrD ns)), some (.pu (.list (ds.map .int))), some (.pu (.tuple ((b0 :: br).map bxD))), w3, w4, w5, w6, w7, w8, w9, w10, w11, none, none] = .ok (treD t) from e2))]
  simp only [List.set]
  rw [sq_nx (show loO EW2 (nmG 11) (ifO TW2 RF nxO) [some (.pu (scrD ns)), some (.pu (.list (ds.map .int))), some (.pu (.tuple ((b0 :: br).map bxD))), w3, w4, w5, w6, w7, w8, w9, w10, w11, some (.pu (treD t)), none] = _ from (by rw [loO_ap, show EW2 [some (.pu (scrD ns)), some (.pu (.list (ds.map .int))), some (.pu (.tuple ((b0 :: br).map bxD))), w3, w4, w5, w6, w7, w8, w9, w10, w11, some (.pu (treD t)), none] = .ok [PyData.none, .tuple [], .tuple [.str "leaf", .int 0], .tuple [.str "fork", bxD tb, treD tl]] from (by rw [ht]; rfl), loK_ok]; exact l4))]
  rw [sq_nx (show loO EW3 (nmG 11) (ifO TW3 RF nxO) [some (.pu (scrD ns)), some (.pu (.list (ds.map .int))), some (.pu (.tuple ((b0 :: br).map bxD))), w3, w4, w5, w6, w7, w8, w9, w10, w11', some (.pu (treD t)), none] = _ from (by rw [loO_ap, show EW3 [some (.pu (scrD ns)), some (.pu (.list (ds.map .int))), some (.pu (.tuple ((b0 :: br).map bxD))), w3, w4, w5, w6, w7, w8, w9, w10, w11', some (.pu (treD t)), none] = .ok [PyData.none, .tuple [], .tuple [spD b0.xl b0.xh], .tuple [.tuple [.int 2, .int 1], .tuple [.int 3, .int 1]]] from rfl, loK_ok]; exact l5))]
  rfl
end Mt

namespace Wk
open PySem PySem.Spec PyProof.Rows L2 TD Dn
def topS (i : Nat) : Stmt := PySem.Challenge.pw_touchtrue_k19_boxes_told.main.body.getD i (.Pass ⟨0, 0, 0, 0⟩)
abbrev s__law_draws : Stmt := topS 53
abbrev N__law_draws : List Str := ["script", "many", "draws", "seed", "cell", "number", "k"]
theorem sc__law_draws : FnScope N__law_draws ["script", "many"] (defScope s__law_draws) := ⟨rfl, rfl, rfl, by decide +kernel, rfl, by decide +kernel, by decide +kernel⟩
abbrev s__law_frac : Stmt := topS 54
abbrev N__law_frac : List Str := ["above", "below", "one", "two"]
theorem sc__law_frac : FnScope N__law_frac ["above", "below"] (defScope s__law_frac) := ⟨rfl, rfl, rfl, by decide +kernel, rfl, by decide +kernel, by decide +kernel⟩
abbrev s__law_plus : Stmt := topS 55
abbrev N__law_plus : List Str := ["one", "other"]
theorem sc__law_plus : FnScope N__law_plus ["one", "other"] (defScope s__law_plus) := ⟨rfl, rfl, rfl, by decide +kernel, rfl, by decide +kernel, by decide +kernel⟩
abbrev s__law_boxes : Stmt := topS 60
abbrev N__law_boxes : List Str := ["draws", "many", "found", "k", "spans", "axis", "low"]
theorem sc__law_boxes : FnScope N__law_boxes ["draws", "many"] (defScope s__law_boxes) := ⟨rfl, rfl, rfl, by decide +kernel, rfl, by decide +kernel, by decide +kernel⟩
abbrev s_order : Stmt := topS 12
abbrev N_order : List Str := ["one", "other", "found"]
theorem sc_order : FnScope N_order ["one", "other"] (defScope s_order) := ⟨rfl, rfl, rfl, by decide +kernel, rfl, by decide +kernel, by decide +kernel⟩
abbrev s_is_integer : Stmt := topS 6
abbrev N_is_integer : List Str := ["value"]
theorem sc_is_integer : FnScope N_is_integer ["value"] (defScope s_is_integer) := ⟨rfl, rfl, rfl, by decide +kernel, rfl, by decide +kernel, by decide +kernel⟩
abbrev s_divisor : Stmt := topS 7
abbrev N_divisor : List Str := ["one", "other"]
theorem sc_divisor : FnScope N_divisor ["one", "other"] (defScope s_divisor) := ⟨rfl, rfl, rfl, by decide +kernel, rfl, by decide +kernel, by decide +kernel⟩
abbrev s_is_number : Stmt := topS 8
abbrev N_is_number : List Str := ["value"]
theorem sc_is_number : FnScope N_is_number ["value"] (defScope s_is_number) := ⟨rfl, rfl, rfl, by decide +kernel, rfl, by decide +kernel, by decide +kernel⟩
abbrev s_is_span : Stmt := topS 17
abbrev N_is_span : List Str := ["value"]
theorem sc_is_span : FnScope N_is_span ["value"] (defScope s_is_span) := ⟨rfl, rfl, rfl, by decide +kernel, rfl, by decide +kernel, by decide +kernel⟩
abbrev s_is_box : Stmt := topS 18
abbrev N_is_box : List Str := ["value"]
theorem sc_is_box : FnScope N_is_box ["value"] (defScope s_is_box) := ⟨rfl, rfl, rfl, by decide +kernel, rfl, by decide +kernel, by decide +kernel⟩
abbrev s_check_boxes : Stmt := topS 33
abbrev N_check_boxes : List Str := ["boxes", "one"]
theorem sc_check_boxes : FnScope N_check_boxes ["boxes"] (defScope s_check_boxes) := ⟨rfl, rfl, rfl, by decide +kernel, rfl, by decide +kernel, by decide +kernel⟩
abbrev s_least_of : Stmt := topS 13
abbrev N_least_of : List Str := ["numbers", "found", "one"]
theorem sc_least_of : FnScope N_least_of ["numbers"] (defScope s_least_of) := ⟨rfl, rfl, rfl, by decide +kernel, rfl, by decide +kernel, by decide +kernel⟩
abbrev s_greatest_of : Stmt := topS 14
abbrev N_greatest_of : List Str := ["numbers", "found", "one"]
theorem sc_greatest_of : FnScope N_greatest_of ["numbers"] (defScope s_greatest_of) := ⟨rfl, rfl, rfl, by decide +kernel, rfl, by decide +kernel, by decide +kernel⟩
abbrev s__span_around : Stmt := topS 23
abbrev N__span_around : List Str := ["spans", "span"]
theorem sc__span_around : FnScope N__span_around ["spans"] (defScope s__span_around) := ⟨rfl, rfl, rfl, by decide +kernel, rfl, by decide +kernel, by decide +kernel⟩
abbrev s_around_by : Stmt := topS 24
abbrev N_around_by : List Str := ["boxes", "box"]
theorem sc_around_by : FnScope N_around_by ["boxes"] (defScope s_around_by) := ⟨rfl, rfl, rfl, by decide +kernel, rfl, by decide +kernel, by decide +kernel⟩
abbrev s__is_ahead : Stmt := topS 35
abbrev N__is_ahead : List Str := ["row", "other", "way"]
theorem sc__is_ahead : FnScope N__is_ahead ["row", "other"] (defScope s__is_ahead) := ⟨rfl, rfl, rfl, by decide +kernel, rfl, by decide +kernel, by decide +kernel⟩
abbrev s_in_order : Stmt := topS 34
abbrev N_in_order : List Str := ["rows", "found", "row", "place"]
theorem sc_in_order : FnScope N_in_order ["rows"] (defScope s_in_order) := ⟨rfl, rfl, rfl, by decide +kernel, rfl, by decide +kernel, by decide +kernel⟩
abbrev s_made : Stmt := topS 9
abbrev N_made : List Str := ["above", "below", "common"]
theorem sc_made : FnScope N_made ["above", "below"] (defScope s_made) := ⟨rfl, rfl, rfl, by decide +kernel, rfl, by decide +kernel, by decide +kernel⟩
abbrev s_difference : Stmt := topS 11
abbrev N_difference : List Str := ["one", "other"]
theorem sc_difference : FnScope N_difference ["one", "other"] (defScope s_difference) := ⟨rfl, rfl, rfl, by decide +kernel, rfl, by decide +kernel, by decide +kernel⟩
abbrev s_sum_of : Stmt := topS 10
abbrev N_sum_of : List Str := ["one", "other"]
theorem sc_sum_of : FnScope N_sum_of ["one", "other"] (defScope s_sum_of) := ⟨rfl, rfl, rfl, by decide +kernel, rfl, by decide +kernel, by decide +kernel⟩
abbrev s__made : Stmt := topS 39
abbrev N__made : List Str := ["boxes", "numbers", "around", "sizes", "axis", "rows", "half", "sorted_numbers", "span", "_at", "number"]
theorem sc__made : FnScope N__made ["boxes", "numbers"] (defScope s__made) := ⟨rfl, rfl, rfl, by decide +kernel, rfl, by decide +kernel, by decide +kernel⟩
abbrev s_tree_of : Stmt := topS 40
abbrev N_tree_of : List Str := ["boxes"]
theorem sc_tree_of : FnScope N_tree_of ["boxes"] (defScope s_tree_of) := ⟨rfl, rfl, rfl, by decide +kernel, rfl, by decide +kernel, by decide +kernel⟩
abbrev s__law_is_number : Stmt := topS 61
abbrev N__law_is_number : List Str := ["value", "one"]
theorem sc__law_is_number : FnScope N__law_is_number ["value"] (defScope s__law_is_number) := ⟨rfl, rfl, rfl, by decide +kernel, rfl, by decide +kernel, by decide +kernel⟩
abbrev s__law_less : Stmt := topS 56
abbrev N__law_less : List Str := ["one", "other"]
theorem sc__law_less : FnScope N__law_less ["one", "other"] (defScope s__law_less) := ⟨rfl, rfl, rfl, by decide +kernel, rfl, by decide +kernel, by decide +kernel⟩
abbrev s__law_is_box : Stmt := topS 62
abbrev N__law_is_box : List Str := ["value", "one"]
theorem sc__law_is_box : FnScope N__law_is_box ["value"] (defScope s__law_is_box) := ⟨rfl, rfl, rfl, by decide +kernel, rfl, by decide +kernel, by decide +kernel⟩
abbrev s_check_boxes_all : Stmt := topS 19
abbrev N_check_boxes_all : List Str := ["values", "one"]
theorem sc_check_boxes_all : FnScope N_check_boxes_all ["values"] (defScope s_check_boxes_all) := ⟨rfl, rfl, rfl, by decide +kernel, rfl, by decide +kernel, by decide +kernel⟩
abbrev s_spans_meet : Stmt := topS 20
abbrev N_spans_meet : List Str := ["one", "other"]
theorem sc_spans_meet : FnScope N_spans_meet ["one", "other"] (defScope s_spans_meet) := ⟨rfl, rfl, rfl, by decide +kernel, rfl, by decide +kernel, by decide +kernel⟩
abbrev s_boxes_meet_by : Stmt := topS 21
abbrev N_boxes_meet_by : List Str := ["one", "other"]
theorem sc_boxes_meet_by : FnScope N_boxes_meet_by ["one", "other"] (defScope s_boxes_meet_by) := ⟨rfl, rfl, rfl, by decide +kernel, rfl, by decide +kernel, by decide +kernel⟩
abbrev s_boxes_meet : Stmt := topS 22
abbrev N_boxes_meet : List Str := ["one", "other"]
theorem sc_boxes_meet : FnScope N_boxes_meet ["one", "other"] (defScope s_boxes_meet) := ⟨rfl, rfl, rfl, by decide +kernel, rfl, by decide +kernel, by decide +kernel⟩
abbrev s_box_around : Stmt := topS 25
abbrev N_box_around : List Str := ["boxes"]
theorem sc_box_around : FnScope N_box_around ["boxes"] (defScope s_box_around) := ⟨rfl, rfl, rfl, by decide +kernel, rfl, by decide +kernel, by decide +kernel⟩
abbrev s_swept_by : Stmt := topS 36
abbrev N_swept_by : List Str := ["boxes", "rows", "number", "box", "_at", "word"]
theorem sc_swept_by : FnScope N_swept_by ["boxes"] (defScope s_swept_by) := ⟨rfl, rfl, rfl, by decide +kernel, rfl, by decide +kernel, by decide +kernel⟩
abbrev s_sweep_row : Stmt := topS 37
abbrev N_sweep_row : List Str := ["boxes"]
theorem sc_sweep_row : FnScope N_sweep_row ["boxes"] (defScope s_sweep_row) := ⟨rfl, rfl, rfl, by decide +kernel, rfl, by decide +kernel, by decide +kernel⟩
abbrev s_sweep_pairs : Stmt := topS 38
abbrev N_sweep_pairs : List Str := ["boxes", "found", "opened", "word", "number", "other"]
theorem sc_sweep_pairs : FnScope N_sweep_pairs ["boxes"] (defScope s_sweep_pairs) := ⟨rfl, rfl, rfl, by decide +kernel, rfl, by decide +kernel, by decide +kernel⟩
abbrev s__is_within : Stmt := topS 43
abbrev N__is_within : List Str := ["box", "other"]
theorem sc__is_within : FnScope N__is_within ["box", "other"] (defScope s__is_within) := ⟨rfl, rfl, rfl, by decide +kernel, rfl, by decide +kernel, by decide +kernel⟩
abbrev s_numbers_in : Stmt := topS 42
abbrev N_numbers_in : List Str := ["tree", "found", "waits", "own"]
theorem sc_numbers_in : FnScope N_numbers_in ["tree"] (defScope s_numbers_in) := ⟨rfl, rfl, rfl, by decide +kernel, rfl, by decide +kernel, by decide +kernel⟩
abbrev s__fork_fault : Stmt := topS 44
abbrev N__fork_fault : List Str := ["boxes", "tree", "place", "first", "number"]
theorem sc__fork_fault : FnScope N__fork_fault ["boxes", "tree", "place"] (defScope s__fork_fault) := ⟨rfl, rfl, rfl, by decide +kernel, rfl, by decide +kernel, by decide +kernel⟩
abbrev s__is_tree : Stmt := topS 41
abbrev N__is_tree : List Str := ["value", "waits", "own", "deep"]
theorem sc__is_tree : FnScope N__is_tree ["value"] (defScope s__is_tree) := ⟨rfl, rfl, rfl, by decide +kernel, rfl, by decide +kernel, by decide +kernel⟩
abbrev s_tree_fault : Stmt := topS 45
abbrev N_tree_fault : List Str := ["boxes", "value", "place"]
theorem sc_tree_fault : FnScope N_tree_fault ["boxes", "value"] (defScope s_tree_fault) := ⟨rfl, rfl, rfl, by decide +kernel, rfl, by decide +kernel, by decide +kernel⟩
abbrev s__check : Stmt := topS 46
abbrev N__check : List Str := ["boxes", "tree"]
theorem sc__check : FnScope N__check ["boxes", "tree"] (defScope s__check) := ⟨rfl, rfl, rfl, by decide +kernel, rfl, by decide +kernel, by decide +kernel⟩
abbrev s__looked : Stmt := topS 48
abbrev N__looked : List Str := ["boxes", "tree", "box", "looking"]
theorem sc__looked : FnScope N__looked ["boxes", "tree", "box"] (defScope s__looked) := ⟨rfl, rfl, rfl, by decide +kernel, rfl, by decide +kernel, by decide +kernel⟩
abbrev s_found_by : Stmt := topS 49
abbrev N_found_by : List Str := ["boxes", "tree", "box"]
theorem sc_found_by : FnScope N_found_by ["boxes", "tree", "box"] (defScope s_found_by) := ⟨rfl, rfl, rfl, by decide +kernel, rfl, by decide +kernel, by decide +kernel⟩
abbrev s_looks_by : Stmt := topS 50
abbrev N_looks_by : List Str := ["boxes", "tree", "box"]
theorem sc_looks_by : FnScope N_looks_by ["boxes", "tree", "box"] (defScope s_looks_by) := ⟨rfl, rfl, rfl, by decide +kernel, rfl, by decide +kernel, by decide +kernel⟩
abbrev s_pairs_found : Stmt := topS 51
abbrev N_pairs_found : List Str := ["boxes", "tree", "found", "number", "box", "looking", "other"]
theorem sc_pairs_found : FnScope N_pairs_found ["boxes", "tree"] (defScope s_pairs_found) := ⟨rfl, rfl, rfl, by decide +kernel, rfl, by decide +kernel, by decide +kernel⟩
abbrev s__law_error : Stmt := topS 63
abbrev N__law_error : List Str := ["way", "one", "other", "third", "e"]
theorem sc__law_error : FnScope N__law_error ["way", "one", "other", "third"] (defScope s__law_error) := ⟨rfl, rfl, rfl, by decide +kernel, rfl, by decide +kernel, by decide +kernel⟩
abbrev s__law_edge : Stmt := topS 57
abbrev N__law_edge : List Str := ["rows", "is_most", "found", "one"]
theorem sc__law_edge : FnScope N__law_edge ["rows", "is_most"] (defScope s__law_edge) := ⟨rfl, rfl, rfl, by decide +kernel, rfl, by decide +kernel, by decide +kernel⟩
abbrev s__law_around : Stmt := topS 59
abbrev N__law_around : List Str := ["boxes", "k", "box"]
theorem sc__law_around : FnScope N__law_around ["boxes"] (defScope s__law_around) := ⟨rfl, rfl, rfl, by decide +kernel, rfl, by decide +kernel, by decide +kernel⟩
abbrev s__law_meet : Stmt := topS 58
abbrev N__law_meet : List Str := ["one", "other", "k"]
theorem sc__law_meet : FnScope N__law_meet ["one", "other"] (defScope s__law_meet) := ⟨rfl, rfl, rfl, by decide +kernel, rfl, by decide +kernel, by decide +kernel⟩
abbrev s_law : Stmt := topS 64
abbrev N_law : List Str := ["script", "draws", "boxes", "one", "other", "low", "high", "values", "value", "good", "many", "wrong", "tree", "way"]
theorem sc_law : FnScope N_law ["script"] (defScope s_law) := ⟨rfl, rfl, rfl, by decide +kernel, rfl, by decide +kernel, by decide +kernel⟩
abbrev s_LookI : Stmt := inClass (topS 47) 0
abbrev s_LookL : Stmt := inClass (topS 47) 1
theorem sc_LookI : FnScope ["self", "boxes", "box"] ["self", "boxes", "box"] (defScope s_LookI) := ⟨rfl, rfl, rfl, by decide +kernel, rfl, by decide +kernel, by decide +kernel⟩
theorem sc_LookL : FnScope ["self", "tree"] ["self", "tree"] (defScope s_LookL) := ⟨rfl, rfl, rfl, by decide +kernel, rfl, by decide +kernel, by decide +kernel⟩
structure Txt (K : PySem.W.Frag) (mg : Str → Option Value) where
  n_abs : mg "abs" = none
  n_all : mg "all" = none
  n_any : mg "any" = none
  n_bool : mg "bool" = none
  n_enumerate : mg "enumerate" = none
  n_int : mg "int" = none
  n_isinstance : mg "isinstance" = none
  n_len : mg "len" = none
  n_list : mg "list" = none
  n_max : mg "max" = none
  n_min : mg "min" = none
  n_range : mg "range" = none
  n_sorted : mg "sorted" = none
  n_str : mg "str" = none
  n_tuple : mg "tuple" = none
  t_ENTERS : Tok
  c_ENTERS : mg "ENTERS" = some (.str "in" t_ENTERS)
  t_FORK : Tok
  c_FORK : mg "FORK" = some (.str "fork" t_FORK)
  t_FORM : Addr
  c_FORM : mg "FORM" = some (.ref t_FORM) ∧ ∀ G, Rp K G (.ref t_FORM) c_FORM
  t_LEAF : Tok
  c_LEAF : mg "LEAF" = some (.str "leaf" t_LEAF)
  t_LEAVES : Tok
  c_LEAVES : mg "LEAVES" = some (.str "out" t_LEAVES)
  t_MOST_BOXES : Tok
  c_MOST_BOXES : mg "MOST_BOXES" = some (.int 60 t_MOST_BOXES)
  t_MOST_DEEP : Tok
  c_MOST_DEEP : mg "MOST_DEEP" = some (.int 60 t_MOST_DEEP)
  C_BadBox : Addr
  x_BadBox : ExcF K mg "BadBox" C_BadBox
  C_BadBoxes : Addr
  x_BadBoxes : ExcF K mg "BadBoxes" C_BadBoxes
  C_BadTree : Addr
  x_BadTree : ExcF K mg "BadTree" C_BadTree
  exs : EX K mg ["BadBox", "BadBoxes", "BadTree"]
  C_TouchError : Addr
  gx_TouchError : mg "TouchError" = some (.ref C_TouchError)
  ec_BadBox : ExcC K C_BadBox
  ec_BadBoxes : ExcC K C_BadBoxes
  ec_BadTree : ExcC K C_BadTree
  hx_BadBox__BadBox_BadBoxes : PySem.W.exmAny K (.ref C_BadBox) [.ref C_BadBox, .ref C_BadBoxes] = some true
  hx_BadBoxes__BadBox_BadBoxes : PySem.W.exmAny K (.ref C_BadBoxes) [.ref C_BadBox, .ref C_BadBoxes] = some true
  hx_BadTree__BadBox_BadBoxes : PySem.W.exmAny K (.ref C_BadTree) [.ref C_BadBox, .ref C_BadBoxes] = some false
  hx_BadTree__TouchError : PySem.W.exmOne K (.ref C_BadTree) (.ref C_TouchError) = some true
  ki_BadBox_BadBox : PySem.W.kitOne K (.ref C_BadBox) (.ref C_BadBox) = some true
  ki_BadBoxes_BadBox : PySem.W.kitOne K (.ref C_BadBoxes) (.ref C_BadBox) = some false
  ki_BadTree_BadTree : PySem.W.kitOne K (.ref C_BadTree) (.ref C_BadTree) = some true
  f__law_draws : Addr
  d__law_draws : FuncData
  F__law_draws : Fun K "_law_draws" "_law_draws" s__law_draws f__law_draws d__law_draws
  g__law_draws : mg "_law_draws" = some (.ref f__law_draws)
  b__law_draws : Binds K d__law_draws ["script", "many"] []
  f__law_frac : Addr
  d__law_frac : FuncData
  F__law_frac : Fun K "_law_frac" "_law_frac" s__law_frac f__law_frac d__law_frac
  g__law_frac : mg "_law_frac" = some (.ref f__law_frac)
  b__law_frac : Binds K d__law_frac ["above", "below"] []
  f__law_plus : Addr
  d__law_plus : FuncData
  F__law_plus : Fun K "_law_plus" "_law_plus" s__law_plus f__law_plus d__law_plus
  g__law_plus : mg "_law_plus" = some (.ref f__law_plus)
  b__law_plus : Binds K d__law_plus ["one", "other"] []
  f__law_boxes : Addr
  d__law_boxes : FuncData
  F__law_boxes : Fun K "_law_boxes" "_law_boxes" s__law_boxes f__law_boxes d__law_boxes
  g__law_boxes : mg "_law_boxes" = some (.ref f__law_boxes)
  b__law_boxes : Binds K d__law_boxes ["draws", "many"] []
  f_order : Addr
  d_order : FuncData
  F_order : Fun K "order" "order" s_order f_order d_order
  g_order : mg "order" = some (.ref f_order)
  b_order : Binds K d_order ["one", "other"] []
  f_is_integer : Addr
  d_is_integer : FuncData
  F_is_integer : Fun K "is_integer" "is_integer" s_is_integer f_is_integer d_is_integer
  g_is_integer : mg "is_integer" = some (.ref f_is_integer)
  b_is_integer : Binds K d_is_integer ["value"] []
  f_divisor : Addr
  d_divisor : FuncData
  F_divisor : Fun K "divisor" "divisor" s_divisor f_divisor d_divisor
  g_divisor : mg "divisor" = some (.ref f_divisor)
  b_divisor : Binds K d_divisor ["one", "other"] []
  f_is_number : Addr
  d_is_number : FuncData
  F_is_number : Fun K "is_number" "is_number" s_is_number f_is_number d_is_number
  g_is_number : mg "is_number" = some (.ref f_is_number)
  b_is_number : Binds K d_is_number ["value"] []
  f_is_span : Addr
  d_is_span : FuncData
  F_is_span : Fun K "is_span" "is_span" s_is_span f_is_span d_is_span
  g_is_span : mg "is_span" = some (.ref f_is_span)
  b_is_span : Binds K d_is_span ["value"] []
  f_is_box : Addr
  d_is_box : FuncData
  F_is_box : Fun K "is_box" "is_box" s_is_box f_is_box d_is_box
  g_is_box : mg "is_box" = some (.ref f_is_box)
  b_is_box : Binds K d_is_box ["value"] []
  f_check_boxes : Addr
  d_check_boxes : FuncData
  F_check_boxes : Fun K "check_boxes" "check_boxes" s_check_boxes f_check_boxes d_check_boxes
  g_check_boxes : mg "check_boxes" = some (.ref f_check_boxes)
  b_check_boxes : Binds K d_check_boxes ["boxes"] []
  f_least_of : Addr
  d_least_of : FuncData
  F_least_of : Fun K "least_of" "least_of" s_least_of f_least_of d_least_of
  g_least_of : mg "least_of" = some (.ref f_least_of)
  b_least_of : Binds K d_least_of ["numbers"] []
  f_greatest_of : Addr
  d_greatest_of : FuncData
  F_greatest_of : Fun K "greatest_of" "greatest_of" s_greatest_of f_greatest_of d_greatest_of
  g_greatest_of : mg "greatest_of" = some (.ref f_greatest_of)
  b_greatest_of : Binds K d_greatest_of ["numbers"] []
  f__span_around : Addr
  d__span_around : FuncData
  F__span_around : Fun K "_span_around" "_span_around" s__span_around f__span_around d__span_around
  g__span_around : mg "_span_around" = some (.ref f__span_around)
  b__span_around : Binds K d__span_around ["spans"] []
  f_around_by : Addr
  d_around_by : FuncData
  F_around_by : Fun K "around_by" "around_by" s_around_by f_around_by d_around_by
  g_around_by : mg "around_by" = some (.ref f_around_by)
  b_around_by : Binds K d_around_by ["boxes"] []
  f__is_ahead : Addr
  d__is_ahead : FuncData
  F__is_ahead : Fun K "_is_ahead" "_is_ahead" s__is_ahead f__is_ahead d__is_ahead
  g__is_ahead : mg "_is_ahead" = some (.ref f__is_ahead)
  b__is_ahead : Binds K d__is_ahead ["row", "other"] []
  f_in_order : Addr
  d_in_order : FuncData
  F_in_order : Fun K "in_order" "in_order" s_in_order f_in_order d_in_order
  g_in_order : mg "in_order" = some (.ref f_in_order)
  b_in_order : Binds K d_in_order ["rows"] []
  f_made : Addr
  d_made : FuncData
  F_made : Fun K "made" "made" s_made f_made d_made
  g_made : mg "made" = some (.ref f_made)
  b_made : Binds K d_made ["above", "below"] []
  f_difference : Addr
  d_difference : FuncData
  F_difference : Fun K "difference" "difference" s_difference f_difference d_difference
  g_difference : mg "difference" = some (.ref f_difference)
  b_difference : Binds K d_difference ["one", "other"] []
  f_sum_of : Addr
  d_sum_of : FuncData
  F_sum_of : Fun K "sum_of" "sum_of" s_sum_of f_sum_of d_sum_of
  g_sum_of : mg "sum_of" = some (.ref f_sum_of)
  b_sum_of : Binds K d_sum_of ["one", "other"] []
  f__made : Addr
  d__made : FuncData
  F__made : Fun K "_made" "_made" s__made f__made d__made
  g__made : mg "_made" = some (.ref f__made)
  b__made : Binds K d__made ["boxes", "numbers"] []
  f_tree_of : Addr
  d_tree_of : FuncData
  F_tree_of : Fun K "tree_of" "tree_of" s_tree_of f_tree_of d_tree_of
  g_tree_of : mg "tree_of" = some (.ref f_tree_of)
  b_tree_of : Binds K d_tree_of ["boxes"] []
  f__law_is_number : Addr
  d__law_is_number : FuncData
  F__law_is_number : Fun K "_law_is_number" "_law_is_number" s__law_is_number f__law_is_number d__law_is_number
  g__law_is_number : mg "_law_is_number" = some (.ref f__law_is_number)
  b__law_is_number : Binds K d__law_is_number ["value"] []
  f__law_less : Addr
  d__law_less : FuncData
  F__law_less : Fun K "_law_less" "_law_less" s__law_less f__law_less d__law_less
  g__law_less : mg "_law_less" = some (.ref f__law_less)
  b__law_less : Binds K d__law_less ["one", "other"] []
  f__law_is_box : Addr
  d__law_is_box : FuncData
  F__law_is_box : Fun K "_law_is_box" "_law_is_box" s__law_is_box f__law_is_box d__law_is_box
  g__law_is_box : mg "_law_is_box" = some (.ref f__law_is_box)
  b__law_is_box : Binds K d__law_is_box ["value"] []
  f_check_boxes_all : Addr
  d_check_boxes_all : FuncData
  F_check_boxes_all : Fun K "check_boxes_all" "check_boxes_all" s_check_boxes_all f_check_boxes_all d_check_boxes_all
  g_check_boxes_all : mg "check_boxes_all" = some (.ref f_check_boxes_all)
  b_check_boxes_all : Binds K d_check_boxes_all ["values"] []
  f_spans_meet : Addr
  d_spans_meet : FuncData
  F_spans_meet : Fun K "spans_meet" "spans_meet" s_spans_meet f_spans_meet d_spans_meet
  g_spans_meet : mg "spans_meet" = some (.ref f_spans_meet)
  b_spans_meet : Binds K d_spans_meet ["one", "other"] []
  f_boxes_meet_by : Addr
  d_boxes_meet_by : FuncData
  F_boxes_meet_by : Fun K "boxes_meet_by" "boxes_meet_by" s_boxes_meet_by f_boxes_meet_by d_boxes_meet_by
  g_boxes_meet_by : mg "boxes_meet_by" = some (.ref f_boxes_meet_by)
  b_boxes_meet_by : Binds K d_boxes_meet_by ["one", "other"] []
  f_boxes_meet : Addr
  d_boxes_meet : FuncData
  F_boxes_meet : Fun K "boxes_meet" "boxes_meet" s_boxes_meet f_boxes_meet d_boxes_meet
  g_boxes_meet : mg "boxes_meet" = some (.ref f_boxes_meet)
  b_boxes_meet : Binds K d_boxes_meet ["one", "other"] []
  f_box_around : Addr
  d_box_around : FuncData
  F_box_around : Fun K "box_around" "box_around" s_box_around f_box_around d_box_around
  g_box_around : mg "box_around" = some (.ref f_box_around)
  b_box_around : Binds K d_box_around ["boxes"] []
  f_swept_by : Addr
  d_swept_by : FuncData
  F_swept_by : Fun K "swept_by" "swept_by" s_swept_by f_swept_by d_swept_by
  g_swept_by : mg "swept_by" = some (.ref f_swept_by)
  b_swept_by : Binds K d_swept_by ["boxes"] []
  f_sweep_row : Addr
  d_sweep_row : FuncData
  F_sweep_row : Fun K "sweep_row" "sweep_row" s_sweep_row f_sweep_row d_sweep_row
  g_sweep_row : mg "sweep_row" = some (.ref f_sweep_row)
  b_sweep_row : Binds K d_sweep_row ["boxes"] []
  f_sweep_pairs : Addr
  d_sweep_pairs : FuncData
  F_sweep_pairs : Fun K "sweep_pairs" "sweep_pairs" s_sweep_pairs f_sweep_pairs d_sweep_pairs
  g_sweep_pairs : mg "sweep_pairs" = some (.ref f_sweep_pairs)
  b_sweep_pairs : Binds K d_sweep_pairs ["boxes"] []
  f__is_within : Addr
  d__is_within : FuncData
  F__is_within : Fun K "_is_within" "_is_within" s__is_within f__is_within d__is_within
  g__is_within : mg "_is_within" = some (.ref f__is_within)
  b__is_within : Binds K d__is_within ["box", "other"] []
  f_numbers_in : Addr
  d_numbers_in : FuncData
  F_numbers_in : Fun K "numbers_in" "numbers_in" s_numbers_in f_numbers_in d_numbers_in
  g_numbers_in : mg "numbers_in" = some (.ref f_numbers_in)
  b_numbers_in : Binds K d_numbers_in ["tree"] []
  f__fork_fault : Addr
  d__fork_fault : FuncData
  F__fork_fault : Fun K "_fork_fault" "_fork_fault" s__fork_fault f__fork_fault d__fork_fault
  g__fork_fault : mg "_fork_fault" = some (.ref f__fork_fault)
  b__fork_fault : Binds K d__fork_fault ["boxes", "tree", "place"] []
  f__is_tree : Addr
  d__is_tree : FuncData
  F__is_tree : Fun K "_is_tree" "_is_tree" s__is_tree f__is_tree d__is_tree
  g__is_tree : mg "_is_tree" = some (.ref f__is_tree)
  b__is_tree : Binds K d__is_tree ["value"] []
  f_tree_fault : Addr
  d_tree_fault : FuncData
  F_tree_fault : Fun K "tree_fault" "tree_fault" s_tree_fault f_tree_fault d_tree_fault
  g_tree_fault : mg "tree_fault" = some (.ref f_tree_fault)
  b_tree_fault : Binds K d_tree_fault ["boxes", "value"] []
  f__check : Addr
  d__check : FuncData
  F__check : Fun K "_check" "_check" s__check f__check d__check
  g__check : mg "_check" = some (.ref f__check)
  b__check : Binds K d__check ["boxes", "tree"] []
  f__looked : Addr
  d__looked : FuncData
  F__looked : Fun K "_looked" "_looked" s__looked f__looked d__looked
  g__looked : mg "_looked" = some (.ref f__looked)
  b__looked : Binds K d__looked ["boxes", "tree", "box"] []
  f_found_by : Addr
  d_found_by : FuncData
  F_found_by : Fun K "found_by" "found_by" s_found_by f_found_by d_found_by
  g_found_by : mg "found_by" = some (.ref f_found_by)
  b_found_by : Binds K d_found_by ["boxes", "tree", "box"] []
  f_looks_by : Addr
  d_looks_by : FuncData
  F_looks_by : Fun K "looks_by" "looks_by" s_looks_by f_looks_by d_looks_by
  g_looks_by : mg "looks_by" = some (.ref f_looks_by)
  b_looks_by : Binds K d_looks_by ["boxes", "tree", "box"] []
  f_pairs_found : Addr
  d_pairs_found : FuncData
  F_pairs_found : Fun K "pairs_found" "pairs_found" s_pairs_found f_pairs_found d_pairs_found
  g_pairs_found : mg "pairs_found" = some (.ref f_pairs_found)
  b_pairs_found : Binds K d_pairs_found ["boxes", "tree"] []
  f__law_error : Addr
  d__law_error : FuncData
  F__law_error : Fun K "_law_error" "_law_error" s__law_error f__law_error d__law_error
  g__law_error : mg "_law_error" = some (.ref f__law_error)
  b__law_error : Binds K d__law_error ["way", "one", "other", "third"] []
  f__law_edge : Addr
  d__law_edge : FuncData
  F__law_edge : Fun K "_law_edge" "_law_edge" s__law_edge f__law_edge d__law_edge
  g__law_edge : mg "_law_edge" = some (.ref f__law_edge)
  b__law_edge : Binds K d__law_edge ["rows", "is_most"] []
  f__law_around : Addr
  d__law_around : FuncData
  F__law_around : Fun K "_law_around" "_law_around" s__law_around f__law_around d__law_around
  g__law_around : mg "_law_around" = some (.ref f__law_around)
  b__law_around : Binds K d__law_around ["boxes"] []
  f__law_meet : Addr
  d__law_meet : FuncData
  F__law_meet : Fun K "_law_meet" "_law_meet" s__law_meet f__law_meet d__law_meet
  g__law_meet : mg "_law_meet" = some (.ref f__law_meet)
  b__law_meet : Binds K d__law_meet ["one", "other"] []
  f_law : Addr
  d_law : FuncData
  F_law : Fun K "law" "law" s_law f_law d_law
  g_law : mg "law" = some (.ref f_law)
  b_law : Binds K d_law ["script"] []
  C_Looking : Addr
  fI_Looking : Addr
  fL_Looking : Addr
  dI_Looking : FuncData
  dL_Looking : FuncData
  FI_Looking : Fun K "__init__" "Looking.__init__" s_LookI fI_Looking dI_Looking
  FL_Looking : Fun K "look" "Looking.look" s_LookL fL_Looking dL_Looking
  cc_Looking : LkC K C_Looking fI_Looking fL_Looking
  gC_Looking : mg "Looking" = some (.ref C_Looking)
  bI_Looking : Binds K dI_Looking ["self", "boxes", "box"] []
  bL_Looking : Binds K dL_Looking ["self", "tree"] []
section
variable {P : Program} {w : World} {K : PySem.W.Frag} {mg : Str → Option Value} {base : Heap}
theorem ok__law_draws (T : Txt K mg) : FnD P w K mg base 1 T.f__law_draws T.d__law_draws ["script", "many"] v__law_draws := def_ok (k := 0) T.F__law_draws sc__law_draws fun cdv A outer s H E hr tk hp =>
  (ss_cons (s_own 2 sc__law_draws.nd (n_lst a_nil))
  (ss_cons (s_set 3 sc__law_draws.nd d_int)
  (ss_cons (s_for hp (i_seq (d_new (n_slcS (d_var 0) o_none (o_some d_int)))) (g_name 4 sc__law_draws.nd)
  (ss_cons (s_set 5 sc__law_draws.nd (d_blt call_abs cd_abs T.n_abs boot_abs (a_cons (d_var 4) a_nil)))
  (ss_cons (s_set 3 sc__law_draws.nd (d_op op_modN od_mod (d_ty cr_intG cd_intG T.n_int boot_int (a_cons (d_op or_add od_add (d_op or_add od_add (d_op op_mulW od_mul (d_var 3) d_int) (d_var 5)) d_int) a_nil)) d_int))
  (ss_one (s_if (dt_cmp op_ge od_ge (d_var 5) (d_op op_pow od_pow d_int d_int) (nomark _))
  (ss_one (s_for hp (i_rng1 T.n_range d_int) (g_name 6 sc__law_draws.nd)
  (ss_one (s_if (dt_cmp op_gt od_gt (d_var 5) d_int (nomark _))
  (ss_cons (s_app 2 (d_op op_modN od_mod (d_ty cr_intG cd_intG T.n_int boot_int (a_cons (d_var 5) a_nil)) d_int))
  (ss_one (s_set 5 sc__law_draws.nd (d_op op_fdivZ od_fdiv (d_var 5) d_int))))
  ss_nil))))
  (ss_one (s_app 2 (d_op op_modN od_mod (d_op op_fdivZ od_fdiv (d_ty cr_intG cd_intG T.n_int boot_int (a_cons (d_op or_add od_add (d_op op_mulW od_mul (d_var 3) d_int) d_int) a_nil)) d_int) d_int))))))))
  (ss_cons (s_for hp (i_rng1 T.n_range (d_var 1)) (g_name 6 sc__law_draws.nd)
  (ss_one (s_if (dt_cmp (or_lt hr.units0) od_lt (d_bltL cr_len ld_len T.n_len PySem.boot_len (l_own 2)) (d_var 1) (nomark _))
  (ss_cons (s_set 3 sc__law_draws.nd (d_op op_modN od_mod (d_ty cr_intG cd_intG T.n_int boot_int (a_cons (d_op or_add od_add (d_op or_add od_add (d_op op_mulW od_mul (d_var 3) d_int) (d_var 6)) d_int) a_nil)) d_int))
  (ss_one (s_app 2 (d_op op_modN od_mod (d_op op_fdivZ od_fdiv (d_ty cr_intG cd_intG T.n_int boot_int (a_cons (d_var 3) a_nil)) d_int) d_int))))
  ss_nil)))
  (ss_one (s_ret (d_new (n_slc (l_own 2) o_none (o_some (d_var 1))))))))))
theorem ok__law_frac (T : Txt K mg) : FnD P w K mg base 1 T.f__law_frac T.d__law_frac ["above", "below"] v__law_frac := def_ok (k := 0) T.F__law_frac sc__law_frac fun cdv A outer s H E hr tk hp =>
  (ss_cons (s_par 2 3 sc__law_frac.nd (a_cons (d_blt call_abs cd_abs T.n_abs boot_abs (a_cons (d_var 0) a_nil)) (a_cons (d_var 1) a_nil)))
  (ss_cons (s_while hp (dt_cmp op_gt od_gt (d_var 3) d_int (nomark _))
  (ss_one (s_par 2 3 sc__law_frac.nd (a_cons (d_var 3) (a_cons (d_op op_modN od_mod (d_var 2) (d_var 3)) a_nil)))))
  (ss_one (s_ret (d_tup (a_cons (d_op op_fdivZ od_fdiv (d_var 0) (d_var 2)) (a_cons (d_op op_fdivZ od_fdiv (d_var 1) (d_var 2)) a_nil)))))))
theorem ok__law_plus (T : Txt K mg) : FnD P w K mg base 2 T.f__law_plus T.d__law_plus ["one", "other"] v__law_plus := def_ok (k := 1) T.F__law_plus sc__law_plus fun cdv A outer s H E hr tk hp =>
  (ss_one (s_ret (d_call (ok__law_frac T) (hr.mono (by decide)) tk T.g__law_frac T.F__law_frac.kp T.b__law_frac (a_cons (d_op or_add od_add (d_op op_mulW od_mul (d_ix (d_var 0) d_int) (d_ix (d_var 1) d_int)) (d_op op_mulW od_mul (d_ix (d_var 1) d_int) (d_ix (d_var 0) d_int))) (a_cons (d_op op_mulW od_mul (d_ix (d_var 0) d_int) (d_ix (d_var 1) d_int)) a_nil)))))
theorem ok__law_boxes (T : Txt K mg) : FnD P w K mg base 3 T.f__law_boxes T.d__law_boxes ["draws", "many"] v__law_boxes := def_ok (k := 2) T.F__law_boxes sc__law_boxes fun cdv A outer s H E hr tk hp =>
  (ss_cons (s_own 2 sc__law_boxes.nd (n_lst a_nil))
  (ss_cons (s_for hp (i_rng1 T.n_range (d_var 1)) (g_name 3 sc__law_boxes.nd)
  (ss_cons (s_own 4 sc__law_boxes.nd (n_lst a_nil))
  (ss_cons (s_for hp (i_seq (d_tup (a_cons d_int (a_cons d_int a_nil)))) (g_name 5 sc__law_boxes.nd)
  (ss_cons (s_set 6 sc__law_boxes.nd (d_call (ok__law_frac T) (hr.mono (by decide)) tk T.g__law_frac T.F__law_frac.kp T.b__law_frac (a_cons (d_op op_sub od_sub (d_op op_modN od_mod (d_ty cr_intG cd_intG T.n_int boot_int (a_cons (d_ix (d_var 0) (d_op or_add od_add (d_op op_mulW od_mul d_int (d_var 3)) (d_var 5))) a_nil)) d_int) d_int) (a_cons (d_op or_add od_add d_int (d_op op_modN od_mod (d_op op_fdivZ od_fdiv (d_ty cr_intG cd_intG T.n_int boot_int (a_cons (d_ix (d_var 0) (d_op or_add od_add (d_op op_mulW od_mul d_int (d_var 3)) (d_var 5))) a_nil)) d_int) d_int)) a_nil))))
  (ss_one (s_app 4 (d_tup (a_cons (d_var 6) (a_cons (d_call (ok__law_plus T) (hr.mono (by decide)) tk T.g__law_plus T.F__law_plus.kp T.b__law_plus (a_cons (d_var 6) (a_cons (d_call (ok__law_frac T) (hr.mono (by decide)) tk T.g__law_frac T.F__law_frac.kp T.b__law_frac (a_cons (d_op op_modN od_mod (d_ty cr_intG cd_intG T.n_int boot_int (a_cons (d_ix (d_var 0) (d_op or_add od_add (d_op or_add od_add (d_op op_mulW od_mul d_int (d_var 3)) d_int) (d_var 5))) a_nil)) d_int) (a_cons (d_op or_add od_add d_int (d_op op_modN od_mod (d_op op_fdivZ od_fdiv (d_ty cr_intG cd_intG T.n_int boot_int (a_cons (d_ix (d_var 0) (d_op or_add od_add (d_op or_add od_add (d_op op_mulW od_mul d_int (d_var 3)) d_int) (d_var 5))) a_nil)) d_int) d_int)) a_nil))) a_nil))) a_nil)))))))
  (ss_one (s_app 2 (d_tyL call_tuple_of ld_tup T.n_tuple boot_tuple (l_own 4)))))))
  (ss_one (s_ret (d_tyL call_tuple_of ld_tup T.n_tuple boot_tuple (l_own 2))))))
theorem ok_order (T : Txt K mg) : FnD P w K mg base 1 T.f_order T.d_order ["one", "other"] v_order := def_ok (k := 0) T.F_order sc_order fun cdv A outer s H E hr tk hp =>
  (ss_cons (s_set 2 sc_order.nd (d_op op_sub od_sub (d_op op_mulW od_mul (d_ix (d_var 0) d_int) (d_ix (d_var 1) d_int)) (d_op op_mulW od_mul (d_ix (d_var 1) d_int) (d_ix (d_var 0) d_int))))
  (ss_one (s_ret (d_if (dt_cmp (op_eqD hr.units) od_eq (d_var 2) d_int (nomark _)) d_int (d_if (dt_cmp op_gt od_gt (d_var 2) d_int (nomark _)) d_int (d_un un_neg ud_neg d_int))))))
theorem ok_is_integer (T : Txt K mg) : FnD P w K mg base 1 T.f_is_integer T.d_is_integer ["value"] v_is_integer := def_ok (k := 0) T.F_is_integer sc_is_integer fun cdv A outer s H E hr tk hp =>
  (ss_one (s_ret (d_and (d_isi T.n_isinstance T.n_int boot_int (d_var 0)) (d_one (d_not (d_isi T.n_isinstance T.n_bool boot_bool (d_var 0)))))))
theorem ok_divisor (T : Txt K mg) : FnD P w K mg base 1 T.f_divisor T.d_divisor ["one", "other"] v_divisor := def_ok (k := 0) T.F_divisor sc_divisor fun cdv A outer s H E hr tk hp =>
  (ss_cons (s_par 0 1 sc_divisor.nd (a_cons (d_blt call_abs cd_abs T.n_abs boot_abs (a_cons (d_var 0) a_nil)) (a_cons (d_blt call_abs cd_abs T.n_abs boot_abs (a_cons (d_var 1) a_nil)) a_nil)))
  (ss_cons (s_while hp (dt_cmp op_gt od_gt (d_var 1) d_int (nomark _))
  (ss_one (s_par 0 1 sc_divisor.nd (a_cons (d_var 1) (a_cons (d_op op_modN od_mod (d_var 0) (d_var 1)) a_nil)))))
  (ss_one (s_ret (d_var 0)))))
theorem ok_is_number (T : Txt K mg) : FnD P w K mg base 2 T.f_is_number T.d_is_number ["value"] v_is_number := def_ok (k := 1) T.F_is_number sc_is_number fun cdv A outer s H E hr tk hp =>
  (ss_cons (s_if (dt_w (dw_or (dt_not (dt_val (d_isi T.n_isinstance T.n_tuple boot_tuple (d_var 0)))) (dw_or (dt_cmp (op_neD hr.units) od_ne (d_blt cr_len cd_len T.n_len PySem.boot_len (a_cons (d_var 0) a_nil)) d_int (nomark _)) (dw_or (dt_not (dt_val (d_call (ok_is_integer T) (hr.mono (by decide)) tk T.g_is_integer T.F_is_integer.kp T.b_is_integer (a_cons (d_ix (d_var 0) d_int) a_nil)))) (dw_or1 (dt_not (dt_val (d_call (ok_is_integer T) (hr.mono (by decide)) tk T.g_is_integer T.F_is_integer.kp T.b_is_integer (a_cons (d_ix (d_var 0) d_int) a_nil)))))))))
  (ss_one (s_ret d_bl))
  ss_nil)
  (ss_one (s_ret (d_and (d_cmp op_ge od_ge (d_ix (d_var 0) d_int) d_int (nomark _)) (d_one (d_cmp (op_eqD hr.units) od_eq (d_call (ok_divisor T) (hr.mono (by decide)) tk T.g_divisor T.F_divisor.kp T.b_divisor (a_cons (d_ix (d_var 0) d_int) (a_cons (d_ix (d_var 0) d_int) a_nil))) d_int (nomark _)))))))
theorem ok_is_span (T : Txt K mg) : FnD P w K mg base 3 T.f_is_span T.d_is_span ["value"] v_is_span := def_ok (k := 2) T.F_is_span sc_is_span fun cdv A outer s H E hr tk hp =>
  (ss_cons (s_if (dt_w (dw_or (dt_not (dt_val (d_isi T.n_isinstance T.n_tuple boot_tuple (d_var 0)))) (dw_or (dt_cmp (op_neD hr.units) od_ne (d_blt cr_len cd_len T.n_len PySem.boot_len (a_cons (d_var 0) a_nil)) d_int (nomark _)) (dw_or (dt_not (dt_val (d_call (ok_is_number T) (hr.mono (by decide)) tk T.g_is_number T.F_is_number.kp T.b_is_number (a_cons (d_ix (d_var 0) d_int) a_nil)))) (dw_or1 (dt_not (dt_val (d_call (ok_is_number T) (hr.mono (by decide)) tk T.g_is_number T.F_is_number.kp T.b_is_number (a_cons (d_ix (d_var 0) d_int) a_nil)))))))))
  (ss_one (s_ret d_bl))
  ss_nil)
  (ss_one (s_ret (d_cmp op_le od_le (d_call (ok_order T) (hr.mono (by decide)) tk T.g_order T.F_order.kp T.b_order (a_cons (d_ix (d_var 0) d_int) (a_cons (d_ix (d_var 0) d_int) a_nil))) d_int (nomark _)))))
theorem ok_is_box (T : Txt K mg) : FnD P w K mg base 4 T.f_is_box T.d_is_box ["value"] v_is_box := def_ok (k := 3) T.F_is_box sc_is_box fun cdv A outer s H E hr tk hp =>
  (ss_one (s_ret (d_and (d_isi T.n_isinstance T.n_tuple boot_tuple (d_var 0)) (d_and (d_cmp (op_eqD hr.units) od_eq (d_blt cr_len cd_len T.n_len PySem.boot_len (a_cons (d_var 0) a_nil)) d_int (nomark _)) (d_and (d_call (ok_is_span T) (hr.mono (by decide)) tk T.g_is_span T.F_is_span.kp T.b_is_span (a_cons (d_ix (d_var 0) d_int) a_nil)) (d_one (d_call (ok_is_span T) (hr.mono (by decide)) tk T.g_is_span T.F_is_span.kp T.b_is_span (a_cons (d_ix (d_var 0) d_int) a_nil))))))))
theorem ok_check_boxes (T : Txt K mg) : FnD P w K mg base 5 T.f_check_boxes T.d_check_boxes ["boxes"] v_check_boxes := def_ok (k := 4) T.F_check_boxes sc_check_boxes fun cdv A outer s H E hr tk hp =>
  (ss_one (s_if (dt_w (dw_or (dt_not (dt_val (d_isi T.n_isinstance T.n_tuple boot_tuple (d_var 0)))) (dw_or (dt_cmp op_gt od_gt (d_blt cr_len cd_len T.n_len PySem.boot_len (a_cons (d_var 0) a_nil)) (d_globI T.c_MOST_BOXES) (nomark _)) (dw_or1 (dt_not (dt_val (d_bltL (cr_all rfl) ld_all T.n_all (by decide +kernel) (l_new (n_lc (own := [("one", 1)]) sc_check_boxes.nd (j_of (i_seq (d_var 0))) (blkOk_by (own := [("one", 1)]) (N := N_check_boxes) (sc := defScope s_check_boxes) (by decide +kernel)) (fun _ _ _ _ _ => (g_name 1 sc_check_boxes.nd)) (fun _ _ _ _ _ => ts_nil) (fun _ _ _ _ _ => (d_call (ok_is_box T) (hr.mono (by decide)) takes0 T.g_is_box T.F_is_box.kp T.b_is_box (a_cons (d_var 1) a_nil))))))))))))
  (ss_one (s_raise T.x_BadBoxes tk))
  ss_nil))
theorem ok_least_of (T : Txt K mg) : FnD P w K mg base 2 T.f_least_of T.d_least_of ["numbers"] v_least_of := def_ok (k := 1) T.F_least_of sc_least_of fun cdv A outer s H E hr tk hp =>
  (ss_cons (s_set 1 sc_least_of.nd (d_ix (d_var 0) d_int))
  (ss_cons (s_for hp (i_seq (d_slc (d_var 0) (o_some d_int) o_none)) (g_name 2 sc_least_of.nd)
  (ss_one (s_if (dt_cmp (or_lt hr.units0) od_lt (d_call (ok_order T) (hr.mono (by decide)) tk T.g_order T.F_order.kp T.b_order (a_cons (d_var 2) (a_cons (d_var 1) a_nil))) d_int (nomark _))
  (ss_one (s_set 1 sc_least_of.nd (d_var 2)))
  ss_nil)))
  (ss_one (s_ret (d_var 1)))))
theorem ok_greatest_of (T : Txt K mg) : FnD P w K mg base 2 T.f_greatest_of T.d_greatest_of ["numbers"] v_greatest_of := def_ok (k := 1) T.F_greatest_of sc_greatest_of fun cdv A outer s H E hr tk hp =>
  (ss_cons (s_set 1 sc_greatest_of.nd (d_ix (d_var 0) d_int))
  (ss_cons (s_for hp (i_seq (d_slc (d_var 0) (o_some d_int) o_none)) (g_name 2 sc_greatest_of.nd)
  (ss_one (s_if (dt_cmp op_gt od_gt (d_call (ok_order T) (hr.mono (by decide)) tk T.g_order T.F_order.kp T.b_order (a_cons (d_var 2) (a_cons (d_var 1) a_nil))) d_int (nomark _))
  (ss_one (s_set 1 sc_greatest_of.nd (d_var 2)))
  ss_nil)))
  (ss_one (s_ret (d_var 1)))))
theorem ok__span_around (T : Txt K mg) : FnD P w K mg base 3 T.f__span_around T.d__span_around ["spans"] v__span_around := def_ok (k := 2) T.F__span_around sc__span_around fun cdv A outer s H E hr tk hp =>
  (ss_one (s_ret (d_tup (a_cons (d_call (ok_least_of T) (hr.mono (by decide)) tk T.g_least_of T.F_least_of.kp T.b_least_of (a_cons (d_new (n_lc (own := [("span", 1)]) sc__span_around.nd (j_of (i_seq (d_var 0))) (blkOk_by (own := [("span", 1)]) (N := N__span_around) (sc := defScope s__span_around) (by decide +kernel)) (fun _ _ _ _ _ => (g_name 1 sc__span_around.nd)) (fun _ _ _ _ _ => ts_nil) (fun _ _ _ _ _ => (d_ix (d_var 1) d_int)))) a_nil)) (a_cons (d_call (ok_greatest_of T) (hr.mono (by decide)) tk T.g_greatest_of T.F_greatest_of.kp T.b_greatest_of (a_cons (d_new (n_lc (own := [("span", 1)]) sc__span_around.nd (j_of (i_seq (d_var 0))) (blkOk_by (own := [("span", 1)]) (N := N__span_around) (sc := defScope s__span_around) (by decide +kernel)) (fun _ _ _ _ _ => (g_name 1 sc__span_around.nd)) (fun _ _ _ _ _ => ts_nil) (fun _ _ _ _ _ => (d_ix (d_var 1) d_int)))) a_nil)) a_nil)))))
theorem ok_around_by (T : Txt K mg) : FnD P w K mg base 4 T.f_around_by T.d_around_by ["boxes"] v_around_by := def_ok (k := 3) T.F_around_by sc_around_by fun cdv A outer s H E hr tk hp =>
  (ss_one (s_ret (d_tup (a_cons (d_call (ok__span_around T) (hr.mono (by decide)) tk T.g__span_around T.F__span_around.kp T.b__span_around (a_cons (d_new (n_lc (own := [("box", 1)]) sc_around_by.nd (j_of (i_seq (d_var 0))) (blkOk_by (own := [("box", 1)]) (N := N_around_by) (sc := defScope s_around_by) (by decide +kernel)) (fun _ _ _ _ _ => (g_name 1 sc_around_by.nd)) (fun _ _ _ _ _ => ts_nil) (fun _ _ _ _ _ => (d_ix (d_var 1) d_int)))) a_nil)) (a_cons (d_call (ok__span_around T) (hr.mono (by decide)) tk T.g__span_around T.F__span_around.kp T.b__span_around (a_cons (d_new (n_lc (own := [("box", 1)]) sc_around_by.nd (j_of (i_seq (d_var 0))) (blkOk_by (own := [("box", 1)]) (N := N_around_by) (sc := defScope s_around_by) (by decide +kernel)) (fun _ _ _ _ _ => (g_name 1 sc_around_by.nd)) (fun _ _ _ _ _ => ts_nil) (fun _ _ _ _ _ => (d_ix (d_var 1) d_int)))) a_nil)) a_nil)))))
theorem ok__is_ahead (T : Txt K mg) : FnD P w K mg base 2 T.f__is_ahead T.d__is_ahead ["row", "other"] v__is_ahead := def_ok (k := 1) T.F__is_ahead sc__is_ahead fun cdv A outer s H E hr tk hp =>
  (ss_cons (s_set 2 sc__is_ahead.nd (d_call (ok_order T) (hr.mono (by decide)) tk T.g_order T.F_order.kp T.b_order (a_cons (d_ix (d_var 0) d_int) (a_cons (d_ix (d_var 1) d_int) a_nil))))
  (ss_one (s_ret (d_or (d_cmp (or_lt hr.units0) od_lt (d_var 2) d_int (nomark _)) (d_one (d_and (d_cmp (op_eqD hr.units) od_eq (d_var 2) d_int (nomark _)) (d_one (d_cmp (or_lt hr.units0) od_lt (d_ix (d_var 0) d_int) (d_ix (d_var 1) d_int) (nomark _)))))))))
theorem ok_in_order (T : Txt K mg) : FnD P w K mg base 3 T.f_in_order T.d_in_order ["rows"] v_in_order := def_ok (k := 2) T.F_in_order sc_in_order fun cdv A outer s H E hr tk hp =>
  (ss_cons (s_set 1 sc_in_order.nd (d_new (n_lst a_nil)))
  (ss_cons (s_for hp (i_seq (d_var 0)) (g_name 2 sc_in_order.nd)
  (ss_cons (s_set 3 sc_in_order.nd (d_blt cr_len cd_len T.n_len PySem.boot_len (a_cons (d_var 1) a_nil)))
  (ss_cons (s_while hp (dt_w (dw_and (dt_cmp op_gt od_gt (d_var 3) d_int (nomark _)) (dw_and1 (dt_val (d_call (ok__is_ahead T) (hr.mono (by decide)) tk T.g__is_ahead T.F__is_ahead.kp T.b__is_ahead (a_cons (d_var 2) (a_cons (d_ix (d_var 1) (d_op op_sub od_sub (d_var 3) d_int)) a_nil)))))))
  (ss_one (s_aug 3 sc_in_order.nd d_int ip_sub id_sub)))
  (ss_one (s_set 1 sc_in_order.nd (d_new (n_cat (l_new (n_cat (l_of (d_slc (d_var 1) o_none (o_some (d_var 3)))) (l_new (n_lst (a_cons (d_var 2) a_nil))))) (l_of (d_slc (d_var 1) (o_some (d_var 3)) o_none)))))))))
  (ss_one (s_ret (d_var 1)))))
theorem ok_made (T : Txt K mg) : FnD P w K mg base 2 T.f_made T.d_made ["above", "below"] v_made := def_ok (k := 1) T.F_made sc_made fun cdv A outer s H E hr tk hp =>
  (ss_cons (s_set 2 sc_made.nd (d_call (ok_divisor T) (hr.mono (by decide)) tk T.g_divisor T.F_divisor.kp T.b_divisor (a_cons (d_var 0) (a_cons (d_var 1) a_nil))))
  (ss_cons (s_if (dt_cmp (or_lt hr.units0) od_lt (d_var 1) d_int (nomark _))
  (ss_one (s_set 2 sc_made.nd (d_op op_sub od_sub d_int (d_var 2))))
  ss_nil)
  (ss_one (s_ret (d_tup (a_cons (d_op op_fdivZ od_fdiv (d_var 0) (d_var 2)) (a_cons (d_op op_fdivZ od_fdiv (d_var 1) (d_var 2)) a_nil)))))))
theorem ok_difference (T : Txt K mg) : FnD P w K mg base 3 T.f_difference T.d_difference ["one", "other"] v_difference := def_ok (k := 2) T.F_difference sc_difference fun cdv A outer s H E hr tk hp =>
  (ss_one (s_ret (d_call (ok_made T) (hr.mono (by decide)) tk T.g_made T.F_made.kp T.b_made (a_cons (d_op op_sub od_sub (d_op op_mulW od_mul (d_ix (d_var 0) d_int) (d_ix (d_var 1) d_int)) (d_op op_mulW od_mul (d_ix (d_var 1) d_int) (d_ix (d_var 0) d_int))) (a_cons (d_op op_mulW od_mul (d_ix (d_var 0) d_int) (d_ix (d_var 1) d_int)) a_nil)))))
theorem ok_sum_of (T : Txt K mg) : FnD P w K mg base 3 T.f_sum_of T.d_sum_of ["one", "other"] v_sum_of := def_ok (k := 2) T.F_sum_of sc_sum_of fun cdv A outer s H E hr tk hp =>
  (ss_one (s_ret (d_call (ok_made T) (hr.mono (by decide)) tk T.g_made T.F_made.kp T.b_made (a_cons (d_op or_add od_add (d_op op_mulW od_mul (d_ix (d_var 0) d_int) (d_ix (d_var 1) d_int)) (d_op op_mulW od_mul (d_ix (d_var 1) d_int) (d_ix (d_var 0) d_int))) (a_cons (d_op op_mulW od_mul (d_ix (d_var 0) d_int) (d_ix (d_var 1) d_int)) a_nil)))))
theorem okr__made (T : Txt K mg) : ∀ n : Nat, FnD P w K mg base (4 + n) T.f__made T.d__made ["boxes", "numbers"] (w__made n)
  | 0 => fn_none
  | n + 1 => def_ok (k := 4 + n) T.F__made sc__made fun cdv A outer s H E hr tk hp =>
  (ss_cons (s_if (dt_cmp (op_eqD hr.units) od_eq (d_blt cr_len cd_len T.n_len PySem.boot_len (a_cons (d_var 1) a_nil)) d_int (nomark _))
  (ss_one (s_ret (d_tup (a_cons (d_globS T.c_LEAF) (a_cons (d_ix (d_var 1) d_int) a_nil)))))
  ss_nil)
  (ss_cons (s_set 2 sc__made.nd (d_call (ok_around_by T) (hr.mono (by omega)) tk T.g_around_by T.F_around_by.kp T.b_around_by (a_cons (d_new (n_lc (own := [("number", 10)]) sc__made.nd (j_of (i_seq (d_var 1))) (blkOk_by (own := [("number", 10)]) (N := N__made) (sc := defScope s__made) (by decide +kernel)) (fun _ _ _ _ _ => (g_name 10 sc__made.nd)) (fun _ _ _ _ _ => ts_nil) (fun _ _ _ _ _ => (d_ix (d_var 0) (d_var 10))))) a_nil)))
  (ss_cons (s_setNG (p_lc (i := 3) (own := [("span", 8)]) sc__made.nd (j_of (i_seq (d_var 2))) (blkOk_by (own := [("span", 8)]) (N := N__made) (sc := defScope s__made) (by decide +kernel)) (fun _ _ _ _ _ => (g_name 8 sc__made.nd)) (fun _ _ _ _ _ => ts_nil) (fun _ _ _ _ _ => (d_call (ok_difference T) (hr.mono (by omega)) takes0 T.g_difference T.F_difference.kp T.b_difference (a_cons (d_ix (d_var 8) d_int) (a_cons (d_ix (d_var 8) d_int) a_nil))))))
  (ss_cons (s_set 4 sc__made.nd (d_if (dt_cmp op_gt od_gt (d_call (ok_order T) (hr.mono (by omega)) tk T.g_order T.F_order.kp T.b_order (a_cons (d_ix (d_var 3) d_int) (a_cons (d_ix (d_var 3) d_int) a_nil))) d_int (nomark _)) d_int d_int))
  (ss_cons (s_set 5 sc__made.nd (d_call (ok_in_order T) (hr.mono (by omega)) tk T.g_in_order T.F_in_order.kp T.b_in_order (a_cons (d_new (n_lc (own := [("number", 10)]) sc__made.nd (j_of (i_seq (d_var 1))) (blkOk_by (own := [("number", 10)]) (N := N__made) (sc := defScope s__made) (by decide +kernel)) (fun _ _ _ _ _ => (g_name 10 sc__made.nd)) (fun _ _ _ _ _ => ts_nil) (fun _ _ _ _ _ => (d_tup (a_cons (d_call (ok_sum_of T) (hr.mono (by omega)) takes0 T.g_sum_of T.F_sum_of.kp T.b_sum_of (a_cons (d_ix (d_ix (d_ix (d_var 0) (d_var 10)) (d_var 4)) d_int) (a_cons (d_ix (d_ix (d_ix (d_var 0) (d_var 10)) (d_var 4)) d_int) a_nil))) (a_cons (d_var 10) a_nil)))))) a_nil)))
  (ss_cons (s_set 6 sc__made.nd (d_op op_fdivZ od_fdiv (d_op or_add od_add (d_blt cr_len cd_len T.n_len PySem.boot_len (a_cons (d_var 5) a_nil)) d_int) d_int))
  (ss_cons (s_setNG (p_lc (i := 7) (own := [("_at", 9), ("number", 10)]) sc__made.nd (j_of (i_seq (d_var 5))) (blkOk_by (own := [("_at", 9), ("number", 10)]) (N := N__made) (sc := defScope s__made) (by decide +kernel)) (fun _ _ _ _ _ => (g_tup 2 (gs_cons (g_name 9 sc__made.nd) (gs_cons (g_name 10 sc__made.nd) gs_nil)))) (fun _ _ _ _ _ => ts_nil) (fun _ _ _ _ _ => (d_var 10))))
  (ss_one (s_ret (d_tup (a_cons (d_globS T.c_FORK) (a_cons (d_var 2) (a_cons (d_call (okr__made T n) (hr.mono (Nat.le_refl _)) tk T.g__made T.F__made.kp T.b__made (a_cons (d_var 0) (a_cons (d_slc (d_var 7) o_none (o_some (d_var 6))) a_nil))) (a_cons (d_call (okr__made T n) (hr.mono (Nat.le_refl _)) tk T.g__made T.F__made.kp T.b__made (a_cons (d_var 0) (a_cons (d_slc (d_var 7) (o_some (d_var 6)) o_none) a_nil))) a_nil))))))))))))))
theorem ok__made (T : Txt K mg) : FnD P w K mg base 68 T.f__made T.d__made ["boxes", "numbers"] v__made := okr__made T 64
theorem ok_tree_of (T : Txt K mg) : FnD P w K mg base 69 T.f_tree_of T.d_tree_of ["boxes"] v_tree_of := def_ok (k := 68) T.F_tree_of sc_tree_of fun cdv A outer s H E hr tk hp =>
  (ss_cons (s_expr (d_call (ok_check_boxes T) (hr.mono (by decide)) tk T.g_check_boxes T.F_check_boxes.kp T.b_check_boxes (a_cons (d_var 0) a_nil)))
  (ss_cons (s_if (dt_cmp (op_eqD hr.units) od_eq (d_blt cr_len cd_len T.n_len PySem.boot_len (a_cons (d_var 0) a_nil)) d_int (nomark _))
  (ss_one (s_raise T.x_BadBoxes tk))
  ss_nil)
  (ss_one (s_ret (d_call (ok__made T) (hr.mono (by decide)) tk T.g__made T.F__made.kp T.b__made (a_cons (d_var 0) (a_cons (d_new (n_listRg T.n_list T.n_range (d_blt cr_len cd_len T.n_len PySem.boot_len (a_cons (d_var 0) a_nil)))) a_nil)))))))
theorem ok__law_is_number (T : Txt K mg) : FnD P w K mg base 2 T.f__law_is_number T.d__law_is_number ["value"] v__law_is_number := def_ok (k := 1) T.F__law_is_number sc__law_is_number fun cdv A outer s H E hr tk hp =>
  (ss_cons (s_if (dt_w (dw_or (dt_not (dt_val (d_isi T.n_isinstance T.n_tuple boot_tuple (d_var 0)))) (dw_or (dt_cmp (op_neD hr.units) od_ne (d_blt cr_len cd_len T.n_len PySem.boot_len (a_cons (d_var 0) a_nil)) d_int (nomark _)) (dw_or1 (dt_not (dt_val (d_bltL (cr_all rfl) ld_all T.n_all (by decide +kernel) (l_new (n_lc (own := [("one", 1)]) sc__law_is_number.nd (j_of (i_seq (d_var 0))) (blkOk_by (own := [("one", 1)]) (N := N__law_is_number) (sc := defScope s__law_is_number) (by decide +kernel)) (fun _ _ _ _ _ => (g_name 1 sc__law_is_number.nd)) (fun _ _ _ _ _ => ts_nil) (fun _ _ _ _ _ => (d_and (d_isi T.n_isinstance T.n_int boot_int (d_var 1)) (d_one (d_not (d_isi T.n_isinstance T.n_bool boot_bool (d_var 1)))))))))))))))
  (ss_one (s_ret d_bl))
  ss_nil)
  (ss_one (s_ret (d_and (d_cmp op_gt od_gt (d_ix (d_var 0) d_int) d_int (nomark _)) (d_one (d_cmp (op_eqD hr.units) od_eq (d_call (ok__law_frac T) (hr.mono (by decide)) tk T.g__law_frac T.F__law_frac.kp T.b__law_frac (a_cons (d_ix (d_var 0) d_int) (a_cons (d_ix (d_var 0) d_int) a_nil))) (d_var 0) (nomark _)))))))
theorem ok__law_less (T : Txt K mg) : FnD P w K mg base 1 T.f__law_less T.d__law_less ["one", "other"] v__law_less := def_ok (k := 0) T.F__law_less sc__law_less fun cdv A outer s H E hr tk hp =>
  (ss_one (s_ret (d_cmp (or_lt hr.units0) od_lt (d_op op_mulW od_mul (d_ix (d_var 0) d_int) (d_ix (d_var 1) d_int)) (d_op op_mulW od_mul (d_ix (d_var 1) d_int) (d_ix (d_var 0) d_int)) (nomark _))))
theorem ok__law_is_box (T : Txt K mg) : FnD P w K mg base 3 T.f__law_is_box T.d__law_is_box ["value"] v__law_is_box := def_ok (k := 2) T.F__law_is_box sc__law_is_box fun cdv A outer s H E hr tk hp =>
  (ss_cons (s_if (dt_w (dw_or (dt_not (dt_val (d_isi T.n_isinstance T.n_tuple boot_tuple (d_var 0)))) (dw_or (dt_cmp (op_neD hr.units) od_ne (d_blt cr_len cd_len T.n_len PySem.boot_len (a_cons (d_var 0) a_nil)) d_int (nomark _)) (dw_or1 (dt_not (dt_val (d_bltL (cr_all rfl) ld_all T.n_all (by decide +kernel) (l_new (n_lc (own := [("one", 1)]) sc__law_is_box.nd (j_of (i_seq (d_var 0))) (blkOk_by (own := [("one", 1)]) (N := N__law_is_box) (sc := defScope s__law_is_box) (by decide +kernel)) (fun _ _ _ _ _ => (g_name 1 sc__law_is_box.nd)) (fun _ _ _ _ _ => ts_nil) (fun _ _ _ _ _ => (d_and (d_isi T.n_isinstance T.n_tuple boot_tuple (d_var 1)) (d_one (d_cmp (op_eqD hr.units) od_eq (d_blt cr_len cd_len T.n_len PySem.boot_len (a_cons (d_var 1) a_nil)) d_int (nomark _))))))))))))))
  (ss_one (s_ret d_bl))
  ss_nil)
  (ss_one (s_ret (d_bltL (cr_all rfl) ld_all T.n_all (by decide +kernel) (l_new (n_lc (own := [("one", 1)]) sc__law_is_box.nd (j_of (i_seq (d_var 0))) (blkOk_by (own := [("one", 1)]) (N := N__law_is_box) (sc := defScope s__law_is_box) (by decide +kernel)) (fun _ _ _ _ _ => (g_name 1 sc__law_is_box.nd)) (fun _ _ _ _ _ => ts_nil) (fun _ _ _ _ _ => (d_and (d_call (ok__law_is_number T) (hr.mono (by decide)) takes0 T.g__law_is_number T.F__law_is_number.kp T.b__law_is_number (a_cons (d_ix (d_var 1) d_int) a_nil)) (d_and (d_call (ok__law_is_number T) (hr.mono (by decide)) takes0 T.g__law_is_number T.F__law_is_number.kp T.b__law_is_number (a_cons (d_ix (d_var 1) d_int) a_nil)) (d_one (d_not (d_call (ok__law_less T) (hr.mono (by decide)) takes0 T.g__law_less T.F__law_less.kp T.b__law_less (a_cons (d_ix (d_var 1) d_int) (a_cons (d_ix (d_var 1) d_int) a_nil))))))))))))))
theorem ok_check_boxes_all (T : Txt K mg) : FnD P w K mg base 5 T.f_check_boxes_all T.d_check_boxes_all ["values"] v_check_boxes_all := def_ok (k := 4) T.F_check_boxes_all sc_check_boxes_all fun cdv A outer s H E hr tk hp =>
  (ss_one (s_if (dt_not (dt_val (d_bltL (cr_all rfl) ld_all T.n_all (by decide +kernel) (l_new (n_lc (own := [("one", 1)]) sc_check_boxes_all.nd (j_of (i_seq (d_var 0))) (blkOk_by (own := [("one", 1)]) (N := N_check_boxes_all) (sc := defScope s_check_boxes_all) (by decide +kernel)) (fun _ _ _ _ _ => (g_name 1 sc_check_boxes_all.nd)) (fun _ _ _ _ _ => ts_nil) (fun _ _ _ _ _ => (d_call (ok_is_box T) (hr.mono (by decide)) takes0 T.g_is_box T.F_is_box.kp T.b_is_box (a_cons (d_var 1) a_nil))))))))
  (ss_one (s_raise T.x_BadBox tk))
  ss_nil))
theorem ok_spans_meet (T : Txt K mg) : FnD P w K mg base 2 T.f_spans_meet T.d_spans_meet ["one", "other"] v_spans_meet := def_ok (k := 1) T.F_spans_meet sc_spans_meet fun cdv A outer s H E hr tk hp =>
  (ss_one (s_ret (d_and (d_cmp op_le od_le (d_call (ok_order T) (hr.mono (by decide)) tk T.g_order T.F_order.kp T.b_order (a_cons (d_ix (d_var 0) d_int) (a_cons (d_ix (d_var 1) d_int) a_nil))) d_int (nomark _)) (d_one (d_cmp op_le od_le (d_call (ok_order T) (hr.mono (by decide)) tk T.g_order T.F_order.kp T.b_order (a_cons (d_ix (d_var 1) d_int) (a_cons (d_ix (d_var 0) d_int) a_nil))) d_int (nomark _))))))
theorem ok_boxes_meet_by (T : Txt K mg) : FnD P w K mg base 3 T.f_boxes_meet_by T.d_boxes_meet_by ["one", "other"] v_boxes_meet_by := def_ok (k := 2) T.F_boxes_meet_by sc_boxes_meet_by fun cdv A outer s H E hr tk hp =>
  (ss_one (s_ret (d_and (d_call (ok_spans_meet T) (hr.mono (by decide)) tk T.g_spans_meet T.F_spans_meet.kp T.b_spans_meet (a_cons (d_ix (d_var 0) d_int) (a_cons (d_ix (d_var 1) d_int) a_nil))) (d_one (d_call (ok_spans_meet T) (hr.mono (by decide)) tk T.g_spans_meet T.F_spans_meet.kp T.b_spans_meet (a_cons (d_ix (d_var 0) d_int) (a_cons (d_ix (d_var 1) d_int) a_nil)))))))
theorem ok_LookI (T : Txt K mg) : FnOk P w K mg base (L2.CX P w) 1 T.fI_Looking T.dI_Looking ["self", "boxes", "box"] (spLkI T.C_Looking) := lkinit_ok (k := 0) T.FI_Looking sc_LookI T.cc_Looking fun cdv A outer s H E =>
  pss_cons (ps_fld (pe_var (i := 0) rfl (Or.inl rfl)) (pe_var (i := 1) rfl (Or.inl rfl)) rfl) (pss_cons (ps_fld (pe_var (i := 0) rfl (Or.inl rfl)) (pe_var (i := 2) rfl (Or.inl rfl)) rfl) (pss_cons (ps_fld (pe_var (i := 0) rfl (Or.inl rfl)) (pe_lst pa_nil) rfl) (pss_one (ps_fld (pe_var (i := 0) rfl (Or.inl rfl)) pe_int rfl))))
theorem okr_LookL (T : Txt K mg) : ∀ n : Nat, FnOk P w K mg base (L2.CX P w) (3 + n) T.fL_Looking T.dL_Looking ["self", "tree"] (spLook K T.C_Looking (lkN v_boxes_meet_by n))
  | 0 => lk_none
  | n + 1 => lklook_ok (k := 3 + n) (F0 := lkN v_boxes_meet_by n) T.FL_Looking sc_LookL T.cc_Looking fun cdv A outer s H E hr tk =>
  (pss_cons (ps_fldaug (pe_var (i := 0) rfl (Or.inl rfl)) pe_int iop_add)
  (pss_one (ps_if (dt_cmp (op_eqD hr.units) od_eq (d_ix (d_var 1) d_int) (d_globS T.c_LEAF) (nomark _))
  (pss_one (ps_if (pt_val (pe_callS (ok_boxes_meet_by T) (hr.mono (by omega)) rfl T.g_boxes_meet_by T.F_boxes_meet_by.kp T.b_boxes_meet_by (fun σ => passAt tk σ) (pa_cons (pe_ix ix_seq (pe_fld (pe_var (i := 0) rfl (Or.inl rfl)) rfl) (d_ix (d_var 1) d_int) (by intro _ _; rfl)) (pa_cons (pe_fld (pe_var (i := 0) rfl (Or.inl rfl)) rfl) pa_nil))))
  (pss_one (ps_expr (pe_bm PySem.F.plainAttrs_list PySem.F.slot_list_append PySem.F.type_list_append mt_append (pe_fld (pe_var (i := 0) rfl (Or.inl rfl)) rfl) (pa_cons (d_ix (d_var 1) d_int) pa_nil)))) pss_nil))
  (pss_one (ps_if (pt_val (pe_callS (ok_boxes_meet_by T) (hr.mono (by omega)) rfl T.g_boxes_meet_by T.F_boxes_meet_by.kp T.b_boxes_meet_by (fun σ => passAt tk σ) (pa_cons (d_ix (d_var 1) d_int) (pa_cons (pe_fld (pe_var (i := 0) rfl (Or.inl rfl)) rfl) pa_nil))))
  (pss_cons (ps_expr (pe_meth (pe_var (i := 0) rfl (Or.inl rfl)) T.cc_Looking.cl T.cc_Looking.me (okr_LookL T n) (hr.mono (Nat.le_refl _)) T.bL_Looking .nil pass00 (pa_cons (d_ix (d_var 1) d_int) pa_nil))) (pss_one (ps_expr (pe_meth (pe_var (i := 0) rfl (Or.inl rfl)) T.cc_Looking.cl T.cc_Looking.me (okr_LookL T n) (hr.mono (Nat.le_refl _)) T.bL_Looking .nil pass00 (pa_cons (d_ix (d_var 1) d_int) pa_nil))))) pss_nil)))))
theorem ok_boxes_meet (T : Txt K mg) : FnD P w K mg base 6 T.f_boxes_meet T.d_boxes_meet ["one", "other"] v_boxes_meet := def_ok (k := 5) T.F_boxes_meet sc_boxes_meet fun cdv A outer s H E hr tk hp =>
  (ss_cons (s_expr (d_call (ok_check_boxes_all T) (hr.mono (by decide)) tk T.g_check_boxes_all T.F_check_boxes_all.kp T.b_check_boxes_all (a_cons (d_tup (a_cons (d_var 0) (a_cons (d_var 1) a_nil))) a_nil)))
  (ss_one (s_ret (d_call (ok_boxes_meet_by T) (hr.mono (by decide)) tk T.g_boxes_meet_by T.F_boxes_meet_by.kp T.b_boxes_meet_by (a_cons (d_var 0) (a_cons (d_var 1) a_nil))))))
theorem ok_box_around (T : Txt K mg) : FnD P w K mg base 6 T.f_box_around T.d_box_around ["boxes"] v_box_around := def_ok (k := 5) T.F_box_around sc_box_around fun cdv A outer s H E hr tk hp =>
  (ss_cons (s_if (dt_w (dw_or (dt_not (dt_val (d_isi T.n_isinstance T.n_tuple boot_tuple (d_var 0)))) (dw_or1 (dt_cmp (op_eqD hr.units) od_eq (d_blt cr_len cd_len T.n_len PySem.boot_len (a_cons (d_var 0) a_nil)) d_int (nomark _)))))
  (ss_one (s_raise T.x_BadBox tk))
  ss_nil)
  (ss_cons (s_expr (d_call (ok_check_boxes_all T) (hr.mono (by decide)) tk T.g_check_boxes_all T.F_check_boxes_all.kp T.b_check_boxes_all (a_cons (d_var 0) a_nil)))
  (ss_one (s_ret (d_call (ok_around_by T) (hr.mono (by decide)) tk T.g_around_by T.F_around_by.kp T.b_around_by (a_cons (d_var 0) a_nil))))))
theorem ok_swept_by (T : Txt K mg) : FnD P w K mg base 4 T.f_swept_by T.d_swept_by ["boxes"] v_swept_by := def_ok (k := 3) T.F_swept_by sc_swept_by fun cdv A outer s H E hr tk hp =>
  (ss_cons (s_own 1 sc_swept_by.nd (n_lst a_nil))
  (ss_cons (s_for hp (i_enumA T.n_enumerate (d_var 0)) (g_tup 2 (gs_cons (g_name 2 sc_swept_by.nd) (gs_cons (g_name 3 sc_swept_by.nd) gs_nil)))
  (ss_cons (s_app 1 (d_tup (a_cons (d_ix (d_ix (d_var 3) d_int) d_int) (a_cons (d_tup (a_cons d_int (a_cons (d_var 2) a_nil))) a_nil))))
  (ss_one (s_app 1 (d_tup (a_cons (d_ix (d_ix (d_var 3) d_int) d_int) (a_cons (d_tup (a_cons d_int (a_cons (d_var 2) a_nil))) a_nil)))))))
  (ss_one (s_retF (d_new (n_lc (own := [("_at", 4), ("word", 5), ("number", 2)]) sc_swept_by.nd (j_of (i_seq (d_call (ok_in_order T) (hr.mono (by decide)) tk T.g_in_order T.F_in_order.kp T.b_in_order (a_cons (d_var 1) a_nil)))) (blkOk_by (own := [("_at", 4), ("word", 5), ("number", 2)]) (N := N_swept_by) (sc := defScope s_swept_by) (by decide +kernel)) (fun _ _ _ _ _ => (g_tup 2 (gs_cons (g_name 4 sc_swept_by.nd) (gs_cons (g_tup 2 (gs_cons (g_name 5 sc_swept_by.nd) (gs_cons (g_name 2 sc_swept_by.nd) gs_nil))) gs_nil)))) (fun _ _ _ _ _ => ts_nil) (fun _ _ _ _ _ => (d_tup (a_cons (d_ix (d_tup (a_cons (d_globS T.c_ENTERS) (a_cons (d_globS T.c_LEAVES) a_nil))) (d_var 5)) (a_cons (d_var 2) a_nil))))))))))
theorem ok_sweep_row (T : Txt K mg) : FnD P w K mg base 6 T.f_sweep_row T.d_sweep_row ["boxes"] v_sweep_row := def_ok (k := 5) T.F_sweep_row sc_sweep_row fun cdv A outer s H E hr tk hp =>
  (ss_cons (s_expr (d_call (ok_check_boxes T) (hr.mono (by decide)) tk T.g_check_boxes T.F_check_boxes.kp T.b_check_boxes (a_cons (d_var 0) a_nil)))
  (ss_one (s_ret (d_ty call_tuple_of cd_tup T.n_tuple boot_tuple (a_cons (d_call (ok_swept_by T) (hr.mono (by decide)) tk T.g_swept_by T.F_swept_by.kp T.b_swept_by (a_cons (d_var 0) a_nil)) a_nil)))))
theorem ok_sweep_pairs (T : Txt K mg) : FnD P w K mg base 6 T.f_sweep_pairs T.d_sweep_pairs ["boxes"] v_sweep_pairs := def_ok (k := 5) T.F_sweep_pairs sc_sweep_pairs fun cdv A outer s H E hr tk hp =>
  (ss_cons (s_expr (d_call (ok_check_boxes T) (hr.mono (by decide)) tk T.g_check_boxes T.F_check_boxes.kp T.b_check_boxes (a_cons (d_var 0) a_nil)))
  (ss_cons (s_parN 1 2 sc_sweep_pairs.nd (n_lst a_nil) (n_lst a_nil))
  (ss_cons (s_for hp (i_seq (d_call (ok_swept_by T) (hr.mono (by decide)) tk T.g_swept_by T.F_swept_by.kp T.b_swept_by (a_cons (d_var 0) a_nil))) (g_tup 2 (gs_cons (g_name 3 sc_sweep_pairs.nd) (gs_cons (g_name 4 sc_sweep_pairs.nd) gs_nil)))
  (ss_cons (s_if (dt_cmp (op_eqD hr.units) od_eq (d_var 3) (d_globS T.c_LEAVES) (nomark _))
  (ss_cons (s_rem 2 (hu65 hr) (d_var 4))
  (ss_one s_continue))
  ss_nil)
  (ss_cons (s_forOwn 2 hp (g_name 5 sc_sweep_pairs.nd)
  (ss_one (s_if (dt_val (d_call (ok_spans_meet T) (hr.mono (by decide)) tk T.g_spans_meet T.F_spans_meet.kp T.b_spans_meet (a_cons (d_ix (d_ix (d_var 0) (d_var 4)) d_int) (a_cons (d_ix (d_ix (d_var 0) (d_var 5)) d_int) a_nil))))
  (ss_one (s_app 1 (d_tup (a_cons (d_blt (call_min2 rfl) cd_min2 T.n_min boot_min (a_cons (d_var 4) (a_cons (d_var 5) a_nil))) (a_cons (d_blt (call_max2 rfl) cd_max2 T.n_max boot_max (a_cons (d_var 4) (a_cons (d_var 5) a_nil))) a_nil)))))
  ss_nil)))
  (ss_one (s_app 2 (d_var 4))))))
  (ss_one (s_ret (d_tyL call_tuple_of ld_tup T.n_tuple boot_tuple (l_new (n_bltL cr_sortD ln_sort T.n_sorted boot_sorted (l_own 1)))))))))
theorem ok__is_within (T : Txt K mg) : FnD P w K mg base 5 T.f__is_within T.d__is_within ["box", "other"] v__is_within := def_ok (k := 4) T.F__is_within sc__is_within fun cdv A outer s H E hr tk hp =>
  (ss_one (s_ret (d_cmp (op_eqD hr.units) od_eq (d_call (ok_around_by T) (hr.mono (by decide)) tk T.g_around_by T.F_around_by.kp T.b_around_by (a_cons (d_new (n_lst (a_cons (d_var 0) (a_cons (d_var 1) a_nil)))) a_nil)) (d_var 1) (nomark _))))
theorem ok_numbers_in (T : Txt K mg) : FnD P w K mg base 1 T.f_numbers_in T.d_numbers_in ["tree"] v_numbers_in := def_ok (k := 0) T.F_numbers_in sc_numbers_in fun cdv A outer s H E hr tk hp =>
  (ss_cons (s_parN 1 2 sc_numbers_in.nd (n_lst a_nil) (n_lst (a_cons (d_var 0) a_nil)))
  (ss_cons (s_while hp (dt_cmp op_gt od_gt (d_bltL cr_len ld_len T.n_len PySem.boot_len (l_own 2)) d_int (nomark _))
  (ss_cons (s_popS 2 3 (by decide) sc_numbers_in.nd)
  (ss_one (s_if (dt_cmp (op_eqD hr.units) od_eq (d_ix (d_var 3) d_int) (d_globS T.c_LEAF) (nomark _))
  (ss_one (s_app 1 (d_ix (d_var 3) d_int)))
  (ss_one (s_ext 2 (l_new (n_lst (a_cons (d_ix (d_var 3) d_int) (a_cons (d_ix (d_var 3) d_int) a_nil))))))))))
  (ss_one (s_retOwn 1))))
theorem okr__fork_fault (T : Txt K mg) : ∀ n : Nat, FnD P w K mg base (5 + n) T.f__fork_fault T.d__fork_fault ["boxes", "tree", "place"] (w__fork_fault n)
  | 0 => fn_none
  | n + 1 => def_ok (k := 5 + n) T.F__fork_fault sc__fork_fault fun cdv A outer s H E hr tk hp =>
  (ss_cons (s_if (dt_cmp (op_eqD hr.units) od_eq (d_ix (d_var 1) d_int) (d_globS T.c_LEAF) (nomark _))
  (ss_one (s_ret d_non))
  ss_nil)
  (ss_cons (s_if (dt_not (dt_val (d_bltL (cr_all rfl) ld_all T.n_all (by decide +kernel) (l_new (n_lc (own := [("number", 4)]) sc__fork_fault.nd (j_of (i_seq (d_call (ok_numbers_in T) (hr.mono (by omega)) tk T.g_numbers_in T.F_numbers_in.kp T.b_numbers_in (a_cons (d_var 1) a_nil)))) (blkOk_by (own := [("number", 4)]) (N := N__fork_fault) (sc := defScope s__fork_fault) (by decide +kernel)) (fun _ _ _ _ _ => (g_name 4 sc__fork_fault.nd)) (fun _ _ _ _ _ => ts_nil) (fun _ _ _ _ _ => (d_call (ok__is_within T) (hr.mono (by omega)) takes0 T.g__is_within T.F__is_within.kp T.b__is_within (a_cons (d_ix (d_var 0) (d_var 4)) (a_cons (d_ix (d_var 1) d_int) a_nil)))))))))
  (ss_one (s_ret (d_var 2)))
  ss_nil)
  (ss_cons (s_set 3 sc__fork_fault.nd (d_call (okr__fork_fault T n) (hr.mono (Nat.le_refl _)) tk T.g__fork_fault T.F__fork_fault.kp T.b__fork_fault (a_cons (d_var 0) (a_cons (d_ix (d_var 1) d_int) (a_cons (d_op or_add od_add (d_var 2) (d_tup (a_cons d_int a_nil))) a_nil)))))
  (ss_one (s_ret (d_if (dt_cmp op_notN od_notN (d_var 3) d_non (nomark _)) (d_var 3) (d_call (okr__fork_fault T n) (hr.mono (Nat.le_refl _)) tk T.g__fork_fault T.F__fork_fault.kp T.b__fork_fault (a_cons (d_var 0) (a_cons (d_ix (d_var 1) d_int) (a_cons (d_op or_add od_add (d_var 2) (d_tup (a_cons d_int a_nil))) a_nil))))))))))
theorem ok__fork_fault (T : Txt K mg) : FnD P w K mg base 69 T.f__fork_fault T.d__fork_fault ["boxes", "tree", "place"] v__fork_fault := okr__fork_fault T 64
theorem ok__is_tree (T : Txt K mg) : FnD P w K mg base 5 T.f__is_tree T.d__is_tree ["value"] v__is_tree := def_ok (k := 4) T.F__is_tree sc__is_tree fun cdv A outer s H E hr tk hp =>
  (ss_cons (s_own 1 sc__is_tree.nd (n_lst (a_cons (d_tup (a_cons (d_var 0) (a_cons d_int a_nil))) a_nil)))
  (ss_cons (s_while hp (dt_cmp op_gt od_gt (d_bltL cr_len ld_len T.n_len PySem.boot_len (l_own 1)) d_int (nomark _))
  (ss_cons (s_popU 1 (g_tup 2 (gs_cons (g_name 2 sc__is_tree.nd) (gs_cons (g_name 3 sc__is_tree.nd) gs_nil))))
  (ss_cons (s_if (dt_w (dw_or (dt_not (dt_val (d_isi T.n_isinstance T.n_tuple boot_tuple (d_var 2)))) (dw_or (dt_cmp (or_notInG (hu65 hr)) od_notInG (d_blt cr_len cd_len T.n_len PySem.boot_len (a_cons (d_var 2) a_nil)) (d_tup (a_cons d_int (a_cons d_int a_nil))) (by rfl)) (dw_or (dt_not (dt_val (d_isi T.n_isinstance T.n_str boot_str (d_ix (d_var 2) d_int)))) (dw_or1 (dt_cmp op_gt od_gt (d_var 3) (d_globI T.c_MOST_DEEP) (nomark _)))))))
  (ss_one (s_ret d_bl))
  ss_nil)
  (ss_one (s_if (dt_cmp (op_eqD hr.units) od_eq (d_blt cr_len cd_len T.n_len PySem.boot_len (a_cons (d_var 2) a_nil)) d_int (nomark _))
  (ss_one (s_if (dt_w (dw_or (dt_cmp (op_neD hr.units) od_ne (d_ix (d_var 2) d_int) (d_globS T.c_LEAF) (nomark _)) (dw_or1 (dt_not (dt_val (d_call (ok_is_integer T) (hr.mono (by decide)) tk T.g_is_integer T.F_is_integer.kp T.b_is_integer (a_cons (d_ix (d_var 2) d_int) a_nil)))))))
  (ss_one (s_ret d_bl))
  ss_nil))
  (ss_one (s_if (dt_w (dw_or (dt_cmp (op_neD hr.units) od_ne (d_ix (d_var 2) d_int) (d_globS T.c_FORK) (nomark _)) (dw_or1 (dt_not (dt_val (d_call (ok_is_box T) (hr.mono (by decide)) tk T.g_is_box T.F_is_box.kp T.b_is_box (a_cons (d_ix (d_var 2) d_int) a_nil)))))))
  (ss_one (s_ret d_bl))
  (ss_one (s_ext 1 (l_new (n_lst (a_cons (d_tup (a_cons (d_ix (d_var 2) d_int) (a_cons (d_op or_add od_add (d_var 3) d_int) a_nil))) (a_cons (d_tup (a_cons (d_ix (d_var 2) d_int) (a_cons (d_op or_add od_add (d_var 3) d_int) a_nil))) a_nil)))))))))))))
  (ss_one (s_ret d_bl))))
theorem ok_tree_fault (T : Txt K mg) : FnD P w K mg base 70 T.f_tree_fault T.d_tree_fault ["boxes", "value"] v_tree_fault := def_ok (k := 69) T.F_tree_fault sc_tree_fault fun cdv A outer s H E hr tk hp =>
  (ss_cons (s_expr (d_call (ok_check_boxes T) (hr.mono (by decide)) tk T.g_check_boxes T.F_check_boxes.kp T.b_check_boxes (a_cons (d_var 0) a_nil)))
  (ss_cons (s_if (dt_not (dt_val (d_call (ok__is_tree T) (hr.mono (by decide)) tk T.g__is_tree T.F__is_tree.kp T.b__is_tree (a_cons (d_var 1) a_nil))))
  (ss_one (s_ret (d_globT T.c_FORM)))
  ss_nil)
  (ss_cons (s_if (dt_cmp (op_neD hr.units) od_ne (d_new (n_bltL cr_sortD ln_sort T.n_sorted boot_sorted (l_of (d_call (ok_numbers_in T) (hr.mono (by decide)) tk T.g_numbers_in T.F_numbers_in.kp T.b_numbers_in (a_cons (d_var 1) a_nil))))) (d_new (n_listRg T.n_list T.n_range (d_blt cr_len cd_len T.n_len PySem.boot_len (a_cons (d_var 0) a_nil)))) (nomark _))
  (ss_one (s_ret (d_tup (a_cons d_str a_nil))))
  ss_nil)
  (ss_cons (s_set 2 sc_tree_fault.nd (d_call (ok__fork_fault T) (hr.mono (by decide)) tk T.g__fork_fault T.F__fork_fault.kp T.b__fork_fault (a_cons (d_var 0) (a_cons (d_var 1) (a_cons (d_tup a_nil) a_nil)))))
  (ss_one (s_ret (d_if (dt_cmp op_notN od_notN (d_var 2) d_non (nomark _)) (d_tup (a_cons d_str (a_cons (d_var 2) a_nil))) d_non)))))))
theorem ok__check (T : Txt K mg) : FnD P w K mg base 71 T.f__check T.d__check ["boxes", "tree"] v__check := def_ok (k := 70) T.F__check sc__check fun cdv A outer s H E hr tk hp =>
  (ss_cons (s_expr (d_call (ok_check_boxes T) (hr.mono (by decide)) tk T.g_check_boxes T.F_check_boxes.kp T.b_check_boxes (a_cons (d_var 0) a_nil)))
  (ss_one (s_if (dt_cmp op_notN od_notN (d_call (ok_tree_fault T) (hr.mono (by decide)) tk T.g_tree_fault T.F_tree_fault.kp T.b_tree_fault (a_cons (d_var 0) (a_cons (d_var 1) a_nil))) d_non (nomark _))
  (ss_one (s_raise T.x_BadTree tk))
  ss_nil)))
theorem ok__looked (T : Txt K mg) : FnD P w K mg base 72 T.f__looked T.d__looked ["boxes", "tree", "box"] v__looked := def_ok (k := 71) T.F__looked sc__looked fun cdv A outer s H E hr tk hp =>
  (ss_cons (s_expr (d_call (ok__check T) (hr.mono (by decide)) tk T.g__check T.F__check.kp T.b__check (a_cons (d_var 0) (a_cons (d_var 1) a_nil))))
  (ss_cons (s_if (dt_not (dt_val (d_call (ok_is_box T) (hr.mono (by decide)) tk T.g_is_box T.F_is_box.kp T.b_is_box (a_cons (d_var 2) a_nil))))
  (ss_one (s_raise T.x_BadBox tk))
  ss_nil)
  (ss_look 3 T.cc_Looking (ok_LookI T) (hr.mono (by decide)) T.gC_Looking T.bI_Looking (okr_LookL T 64) (hr.mono (by decide)) T.bL_Looking sc__looked.nd (d_var 0) (d_var 2) (d_var 1)
  (ss_one (s_ret (d_var 3))))))
theorem ok_found_by (T : Txt K mg) : FnD P w K mg base 73 T.f_found_by T.d_found_by ["boxes", "tree", "box"] v_found_by := def_ok (k := 72) T.F_found_by sc_found_by fun cdv A outer s H E hr tk hp =>
  (ss_one (s_ret (d_tyL call_tuple_of ld_tup T.n_tuple boot_tuple (l_new (n_bltL cr_sortD ln_sort T.n_sorted boot_sorted (l_of (d_fldH (d_call (ok__looked T) (hr.mono (by decide)) tk T.g__looked T.F__looked.kp T.b__looked (a_cons (d_var 0) (a_cons (d_var 1) (a_cons (d_var 2) a_nil)))))))))))
theorem ok_looks_by (T : Txt K mg) : FnD P w K mg base 73 T.f_looks_by T.d_looks_by ["boxes", "tree", "box"] v_looks_by := def_ok (k := 72) T.F_looks_by sc_looks_by fun cdv A outer s H E hr tk hp =>
  (ss_one (s_ret (d_fldC (d_call (ok__looked T) (hr.mono (by decide)) tk T.g__looked T.F__looked.kp T.b__looked (a_cons (d_var 0) (a_cons (d_var 1) (a_cons (d_var 2) a_nil)))))))
theorem ok_pairs_found (T : Txt K mg) : FnD P w K mg base 72 T.f_pairs_found T.d_pairs_found ["boxes", "tree"] v_pairs_found := def_ok (k := 71) T.F_pairs_found sc_pairs_found fun cdv A outer s H E hr tk hp =>
  (ss_cons (s_expr (d_call (ok__check T) (hr.mono (by decide)) tk T.g__check T.F__check.kp T.b__check (a_cons (d_var 0) (a_cons (d_var 1) a_nil))))
  (ss_cons (s_own 2 sc_pairs_found.nd (n_lst a_nil))
  (ss_cons (s_for hp (i_enumA T.n_enumerate (d_var 0)) (g_tup 2 (gs_cons (g_name 3 sc_pairs_found.nd) (gs_cons (g_name 4 sc_pairs_found.nd) gs_nil)))
  (ss_look 5 T.cc_Looking (ok_LookI T) (hr.mono (by decide)) T.gC_Looking T.bI_Looking (okr_LookL T 64) (hr.mono (by decide)) T.bL_Looking sc_pairs_found.nd (d_var 0) (d_var 4) (d_var 1)
  (ss_one (s_ext 2 (l_new (n_lc (own := [("other", 6)]) sc_pairs_found.nd (j_of (i_seq (d_fldH (d_var 5)))) (blkOk_by (own := [("other", 6)]) (N := N_pairs_found) (sc := defScope s_pairs_found) (by decide +kernel)) (fun _ _ _ _ _ => (g_name 6 sc_pairs_found.nd)) (fun _ _ _ _ _ => (ts_one (dt_cmp op_gt od_gt (d_var 6) (d_var 3) (nomark _)))) (fun _ _ _ _ _ => (d_tup (a_cons (d_var 3) (a_cons (d_var 6) a_nil))))))))))
  (ss_one (s_ret (d_tyL call_tuple_of ld_tup T.n_tuple boot_tuple (l_new (n_bltL cr_sortD ln_sort T.n_sorted boot_sorted (l_own 2)))))))))
theorem ok__law_error (T : Txt K mg) : FnD P w K mg base 74 T.f__law_error T.d__law_error ["way", "one", "other", "third"] v__law_error := def_ok (k := 73) T.F__law_error sc__law_error fun cdv A outer s H E hr tk hp =>
  (ss_cons (s_tryR (tb := [("BadTree", (.str "tree")), ("BadBoxes", (.str "boxes")), ("BadBox", (.str "box"))]) tk (fun W' pn xe tk hp => (ss_one (s_if (dt_cmp (op_eqD hr.units) od_eq (d_var 0) d_int (nomark _))
  (ss_one (s_expr (d_call (ok_boxes_meet T) (hr.mono (by decide)) tk T.g_boxes_meet T.F_boxes_meet.kp T.b_boxes_meet (a_cons (d_var 1) (a_cons (d_var 2) a_nil)))))
  (ss_one (s_if (dt_cmp (op_eqD hr.units) od_eq (d_var 0) d_int (nomark _))
  (ss_one (s_expr (d_call (ok_box_around T) (hr.mono (by decide)) tk T.g_box_around T.F_box_around.kp T.b_box_around (a_cons (d_var 1) a_nil))))
  (ss_one (s_if (dt_cmp (op_eqD hr.units) od_eq (d_var 0) d_int (nomark _))
  (ss_one (s_expr (d_call (ok_sweep_row T) (hr.mono (by decide)) tk T.g_sweep_row T.F_sweep_row.kp T.b_sweep_row (a_cons (d_var 1) a_nil))))
  (ss_one (s_if (dt_cmp (op_eqD hr.units) od_eq (d_var 0) d_int (nomark _))
  (ss_one (s_expr (d_call (ok_sweep_pairs T) (hr.mono (by decide)) tk T.g_sweep_pairs T.F_sweep_pairs.kp T.b_sweep_pairs (a_cons (d_var 1) a_nil))))
  (ss_one (s_if (dt_cmp (op_eqD hr.units) od_eq (d_var 0) d_int (nomark _))
  (ss_one (s_expr (d_call (ok_tree_of T) (hr.mono (by decide)) tk T.g_tree_of T.F_tree_of.kp T.b_tree_of (a_cons (d_var 1) a_nil))))
  (ss_one (s_if (dt_cmp (op_eqD hr.units) od_eq (d_var 0) d_int (nomark _))
  (ss_one (s_expr (d_call (ok_tree_fault T) (hr.mono (by decide)) tk T.g_tree_fault T.F_tree_fault.kp T.b_tree_fault (a_cons (d_var 1) (a_cons (d_var 2) a_nil)))))
  (ss_one (s_if (dt_cmp (op_eqD hr.units) od_eq (d_var 0) d_int (nomark _))
  (ss_one (s_expr (d_call (ok_found_by T) (hr.mono (by decide)) tk T.g_found_by T.F_found_by.kp T.b_found_by (a_cons (d_var 1) (a_cons (d_var 2) (a_cons (d_var 3) a_nil))))))
  (ss_one (s_if (dt_cmp (op_eqD hr.units) od_eq (d_var 0) d_int (nomark _))
  (ss_one (s_expr (d_call (ok_looks_by T) (hr.mono (by decide)) tk T.g_looks_by T.F_looks_by.kp T.b_looks_by (a_cons (d_var 1) (a_cons (d_var 2) (a_cons (d_var 3) a_nil))))))
  (ss_one (s_expr (d_call (ok_pairs_found T) (hr.mono (by decide)) tk T.g_pairs_found T.F_pairs_found.kp T.b_pairs_found (a_cons (d_var 1) (a_cons (d_var 2) a_nil)))))))))))))))))))))) (CSel.cons (i := 4) (test_tup2 T.x_BadBox.gP T.x_BadBoxes.gP) (CSel.cons (i := 4) (test_name T.gx_TouchError) CSel.nil))
  (hT_cons T.x_BadTree.gP (Hit.next T.hx_BadTree__BadBox_BadBoxes (Hit.here T.hx_BadTree__TouchError (sel_ret fun a oe pn hz hf => (sel_t (sel_isi T.ec_BadTree hz hf T.ki_BadTree_BadTree rfl (Or.inl rfl) T.x_BadTree.gP T.n_isinstance rfl rfl (by decide) (by decide) (by decide)) (sel_c d_str)))))
  (hT_cons T.x_BadBoxes.gP (Hit.here T.hx_BadBoxes__BadBox_BadBoxes (sel_ret fun a oe pn hz hf => (sel_f (sel_isi T.ec_BadBoxes hz hf T.ki_BadBoxes_BadBox rfl (Or.inl rfl) T.x_BadBox.gP T.n_isinstance rfl rfl (by decide) (by decide) (by decide)) (sel_c d_str))))
  (hT_cons T.x_BadBox.gP (Hit.here T.hx_BadBox__BadBox_BadBoxes (sel_ret fun a oe pn hz hf => (sel_t (sel_isi T.ec_BadBox hz hf T.ki_BadBox_BadBox rfl (Or.inl rfl) T.x_BadBox.gP T.n_isinstance rfl rfl (by decide) (by decide) (by decide)) (sel_c d_str))))
  hT_nil))) (hN := (by decide +kernel : (N__law_error).Nodup)))
  (ss_one (s_ret d_str)))
theorem ok__law_edge (T : Txt K mg) : FnD P w K mg base 2 T.f__law_edge T.d__law_edge ["rows", "is_most"] v__law_edge := def_ok (k := 1) T.F__law_edge sc__law_edge fun cdv A outer s H E hr tk hp =>
  (ss_cons (s_set 2 sc__law_edge.nd (d_ix (d_var 0) d_int))
  (ss_cons (s_for hp (i_seq (d_slc (d_var 0) (o_some d_int) o_none)) (g_name 3 sc__law_edge.nd)
  (ss_one (s_if (dt_if (dt_val (d_var 1)) (dt_val (d_call (ok__law_less T) (hr.mono (by decide)) tk T.g__law_less T.F__law_less.kp T.b__law_less (a_cons (d_var 2) (a_cons (d_var 3) a_nil)))) (dt_val (d_call (ok__law_less T) (hr.mono (by decide)) tk T.g__law_less T.F__law_less.kp T.b__law_less (a_cons (d_var 3) (a_cons (d_var 2) a_nil)))))
  (ss_one (s_set 2 sc__law_edge.nd (d_var 3)))
  ss_nil)))
  (ss_one (s_ret (d_var 2)))))
theorem ok__law_around (T : Txt K mg) : FnD P w K mg base 3 T.f__law_around T.d__law_around ["boxes"] v__law_around := def_ok (k := 2) T.F__law_around sc__law_around fun cdv A outer s H E hr tk hp =>
  (ss_one (s_ret (d_tyL call_tuple_of ld_tup T.n_tuple boot_tuple (l_new (n_lc (own := [("k", 1)]) sc__law_around.nd (j_of (i_seq (d_tup (a_cons d_int (a_cons d_int a_nil))))) (blkOk_by (own := [("k", 1)]) (N := N__law_around) (sc := defScope s__law_around) (by decide +kernel)) (fun _ _ _ _ _ => (g_name 1 sc__law_around.nd)) (fun _ _ _ _ _ => ts_nil) (fun _ _ _ _ _ => (d_tup (a_cons (d_call (ok__law_edge T) (hr.mono (by decide)) takes0 T.g__law_edge T.F__law_edge.kp T.b__law_edge (a_cons (d_new (n_lc (own := [("box", 2)]) sc__law_around.nd (j_of (i_seq (d_var 0))) (blkOk_nest (own := [("box", 2)]) (N := N__law_around) (sc := defScope s__law_around) (by decide +kernel)) (fun _ _ _ _ _ => (g_name 2 sc__law_around.nd)) (fun _ _ _ _ _ => ts_nil) (fun _ _ _ _ _ => (d_ix (d_ix (d_var 2) (d_var 1)) d_int)))) (a_cons d_bl a_nil))) (a_cons (d_call (ok__law_edge T) (hr.mono (by decide)) takes0 T.g__law_edge T.F__law_edge.kp T.b__law_edge (a_cons (d_new (n_lc (own := [("box", 2)]) sc__law_around.nd (j_of (i_seq (d_var 0))) (blkOk_nest (own := [("box", 2)]) (N := N__law_around) (sc := defScope s__law_around) (by decide +kernel)) (fun _ _ _ _ _ => (g_name 2 sc__law_around.nd)) (fun _ _ _ _ _ => ts_nil) (fun _ _ _ _ _ => (d_ix (d_ix (d_var 2) (d_var 1)) d_int)))) (a_cons d_bl a_nil))) a_nil)))))))))
theorem ok__law_meet (T : Txt K mg) : FnD P w K mg base 2 T.f__law_meet T.d__law_meet ["one", "other"] v__law_meet := def_ok (k := 1) T.F__law_meet sc__law_meet fun cdv A outer s H E hr tk hp =>
  (ss_one (s_ret (d_not (d_bltL (cr_any rfl) ld_any T.n_any (by decide +kernel) (l_new (n_lc (own := [("k", 2)]) sc__law_meet.nd (j_of (i_seq (d_tup (a_cons d_int (a_cons d_int a_nil))))) (blkOk_by (own := [("k", 2)]) (N := N__law_meet) (sc := defScope s__law_meet) (by decide +kernel)) (fun _ _ _ _ _ => (g_name 2 sc__law_meet.nd)) (fun _ _ _ _ _ => ts_nil) (fun _ _ _ _ _ => (d_or (d_call (ok__law_less T) (hr.mono (by decide)) takes0 T.g__law_less T.F__law_less.kp T.b__law_less (a_cons (d_ix (d_ix (d_var 0) (d_var 2)) d_int) (a_cons (d_ix (d_ix (d_var 1) (d_var 2)) d_int) a_nil))) (d_one (d_call (ok__law_less T) (hr.mono (by decide)) takes0 T.g__law_less T.F__law_less.kp T.b__law_less (a_cons (d_ix (d_ix (d_var 1) (d_var 2)) d_int) (a_cons (d_ix (d_ix (d_var 0) (d_var 2)) d_int) a_nil))))))))))))
theorem ok_law (T : Txt K mg) : FnD P w K mg base 75 T.f_law T.d_law ["script"] v_law := def_ok (k := 74) T.F_law sc_law fun cdv A outer s H E hr tk hp =>
  (ss_cons (s_set 1 sc_law.nd (d_call (ok__law_draws T) (hr.mono (by decide)) tk T.g__law_draws T.F__law_draws.kp T.b__law_draws (a_cons (d_var 0) (a_cons d_int a_nil))))
  (ss_cons (s_set 2 sc_law.nd (d_call (ok__law_boxes T) (hr.mono (by decide)) tk T.g__law_boxes T.F__law_boxes.kp T.b__law_boxes (a_cons (d_var 1) (a_cons d_int a_nil))))
  (ss_cons (s_for hp (i_seq (d_var 2)) (g_name 3 sc_law.nd)
  (ss_cons (s_for hp (i_seq (d_var 2)) (g_name 4 sc_law.nd)
  (ss_one (s_if (dt_w (dw_or (dt_cmp (op_neD hr.units) od_ne (d_call (ok_boxes_meet T) (hr.mono (by decide)) tk T.g_boxes_meet T.F_boxes_meet.kp T.b_boxes_meet (a_cons (d_var 3) (a_cons (d_var 4) a_nil))) (d_call (ok__law_meet T) (hr.mono (by decide)) tk T.g__law_meet T.F__law_meet.kp T.b__law_meet (a_cons (d_var 3) (a_cons (d_var 4) a_nil))) (nomark _)) (dw_or1 (dt_cmp (op_neD hr.units) od_ne (d_call (ok_boxes_meet T) (hr.mono (by decide)) tk T.g_boxes_meet T.F_boxes_meet.kp T.b_boxes_meet (a_cons (d_var 3) (a_cons (d_var 4) a_nil))) (d_call (ok_boxes_meet T) (hr.mono (by decide)) tk T.g_boxes_meet T.F_boxes_meet.kp T.b_boxes_meet (a_cons (d_var 4) (a_cons (d_var 3) a_nil))) (nomark _)))))
  (ss_one (s_ret d_bl))
  ss_nil)))
  (ss_cons (s_unp (d_var 3) (g_tup 2 (gs_cons (g_name 5 sc_law.nd) (gs_cons (g_name 6 sc_law.nd) gs_nil))))
  (ss_cons (s_set 7 sc_law.nd (d_new (n_lst (a_cons (d_var 3) (a_cons (d_new (n_lstOf T.n_list boot_list (a_cons (d_var 3) a_nil))) (a_cons (d_tup (a_cons (d_var 5) a_nil)) (a_cons (d_op or_add od_add (d_var 3) (d_tup (a_cons (d_var 5) a_nil))) (a_cons (d_tup (a_cons (d_var 5) (a_cons d_non a_nil))) (a_cons d_non (a_cons d_int (a_cons (d_tup (a_cons (d_new (n_lstOf T.n_list boot_list (a_cons (d_var 5) a_nil))) (a_cons (d_var 6) a_nil))) (a_cons (d_tup (a_cons (d_tup (a_cons (d_ix (d_var 5) d_int) a_nil)) (a_cons (d_var 6) a_nil))) (a_cons (d_tup (a_cons (d_tup (a_cons (d_ix (d_var 5) d_int) (a_cons (d_ix (d_var 5) d_int) a_nil))) (a_cons (d_var 6) a_nil))) (a_cons (d_tup (a_cons (d_var 6) (a_cons (d_tup (a_cons (d_ix (d_var 6) d_int) (a_cons (d_ix (d_var 6) d_int) a_nil))) a_nil))) a_nil))))))))))))))
  (ss_cons (s_set 7 sc_law.nd (d_new (n_cat (l_of (d_var 7)) (l_new (n_lst (a_cons (d_tup (a_cons (d_tup (a_cons (d_ix (d_var 5) d_int) (a_cons d_int a_nil))) (a_cons (d_var 6) a_nil))) (a_cons (d_tup (a_cons (d_tup (a_cons (d_ix (d_var 5) d_int) (a_cons (d_tup (a_cons d_int (a_cons d_int a_nil))) a_nil))) (a_cons (d_var 6) a_nil))) (a_cons (d_tup (a_cons (d_tup (a_cons (d_ix (d_var 5) d_int) (a_cons (d_tup (a_cons d_bl (a_cons d_int a_nil))) a_nil))) (a_cons (d_var 6) a_nil))) (a_cons (d_tup (a_cons (d_tup (a_cons (d_ix (d_var 5) d_int) (a_cons (d_tup (a_cons d_int (a_cons d_int a_nil))) a_nil))) (a_cons (d_var 6) a_nil))) (a_cons (d_tup (a_cons (d_tup (a_cons (d_ix (d_var 5) d_int) (a_cons (d_tup (a_cons d_int (a_cons d_int a_nil))) a_nil))) (a_cons (d_var 6) a_nil))) (a_cons (d_tup (a_cons (d_tup (a_cons (d_ix (d_var 5) d_int) (a_cons (d_tup (a_cons d_int (a_cons (d_un un_neg ud_neg d_int) a_nil))) a_nil))) (a_cons (d_var 6) a_nil))) a_nil)))))))))))
  (ss_one (s_for hp (i_seq (d_var 7)) (g_name 8 sc_law.nd)
  (ss_cons (s_set 9 sc_law.nd (d_call (ok__law_is_box T) (hr.mono (by decide)) tk T.g__law_is_box T.F__law_is_box.kp T.b__law_is_box (a_cons (d_var 8) a_nil)))
  (ss_cons (s_if (dt_w (dw_or (dt_cmp (op_neD hr.units) od_ne (d_call (ok_is_box T) (hr.mono (by decide)) tk T.g_is_box T.F_is_box.kp T.b_is_box (a_cons (d_var 8) a_nil)) (d_var 9) (nomark _)) (dw_or1 (dt_cmp (op_eqD hr.units) od_eq (d_cmp (op_eqD hr.units) od_eq (d_call (ok__law_error T) (hr.mono (by decide)) tk T.g__law_error T.F__law_error.kp T.b__law_error (a_cons d_int (a_cons (d_var 8) (a_cons (d_var 3) (a_cons d_non a_nil))))) d_str (nomark _)) (d_var 9) (nomark _)))))
  (ss_one (s_ret d_bl))
  ss_nil)
  (ss_cons (s_if (dt_w (dw_or (dt_cmp (op_eqD hr.units) od_eq (d_cmp (op_eqD hr.units) od_eq (d_call (ok__law_error T) (hr.mono (by decide)) tk T.g__law_error T.F__law_error.kp T.b__law_error (a_cons d_int (a_cons (d_var 3) (a_cons (d_var 8) (a_cons d_non a_nil))))) d_str (nomark _)) (d_var 9) (nomark _)) (dw_or1 (dt_cmp (op_eqD hr.units) od_eq (d_cmp (op_eqD hr.units) od_eq (d_call (ok__law_error T) (hr.mono (by decide)) tk T.g__law_error T.F__law_error.kp T.b__law_error (a_cons d_int (a_cons (d_tup (a_cons (d_var 3) (a_cons (d_var 8) a_nil))) (a_cons d_non (a_cons d_non a_nil))))) d_str (nomark _)) (d_var 9) (nomark _)))))
  (ss_one (s_ret d_bl))
  ss_nil)
  (ss_one (s_if (dt_cmp (op_neD hr.units) od_ne (d_new (n_lc (own := [("way", 13)]) sc_law.nd (j_of (i_seq (d_tup (a_cons d_int (a_cons d_int (a_cons d_int (a_cons d_int a_nil))))))) (blkOk_by (own := [("way", 13)]) (N := N_law) (sc := defScope s_law) (by decide +kernel)) (fun _ _ _ _ _ => (g_name 13 sc_law.nd)) (fun _ _ _ _ _ => ts_nil) (fun _ _ _ _ _ => (d_cmp (op_eqD hr.units) od_eq (d_call (ok__law_error T) (hr.mono (by decide)) takes0 T.g__law_error T.F__law_error.kp T.b__law_error (a_cons (d_var 13) (a_cons (d_tup (a_cons (d_var 3) (a_cons (d_var 8) a_nil))) (a_cons d_non (a_cons d_non a_nil))))) d_str (nomark _))))) (d_new (n_rep (l_new (n_lst (a_cons (d_not (d_var 9)) a_nil))) d_int)) (nomark _))
  (ss_one (s_ret d_bl))
  ss_nil))))))))))))
  (ss_cons (s_for hp (i_seq (d_tup (a_cons d_int (a_cons d_int (a_cons d_int (a_cons d_int a_nil)))))) (g_name 10 sc_law.nd)
  (ss_one (s_if (dt_w (dw_or (dt_cmp (op_neD hr.units) od_ne (d_call (ok_box_around T) (hr.mono (by decide)) tk T.g_box_around T.F_box_around.kp T.b_box_around (a_cons (d_slc (d_var 2) o_none (o_some (d_var 10))) a_nil)) (d_call (ok__law_around T) (hr.mono (by decide)) tk T.g__law_around T.F__law_around.kp T.b__law_around (a_cons (d_slc (d_var 2) o_none (o_some (d_var 10))) a_nil)) (nomark _)) (dw_or1 (dt_not (dt_val (d_bltL (cr_all rfl) ld_all T.n_all (by decide +kernel) (l_new (n_lc (own := [("one", 3)]) sc_law.nd (j_of (i_seq (d_slc (d_var 2) o_none (o_some (d_var 10))))) (blkOk_by (own := [("one", 3)]) (N := N_law) (sc := defScope s_law) (by decide +kernel)) (fun _ _ _ _ _ => (g_name 3 sc_law.nd)) (fun _ _ _ _ _ => ts_nil) (fun _ _ _ _ _ => (d_call (ok_boxes_meet T) (hr.mono (by decide)) takes0 T.g_boxes_meet T.F_boxes_meet.kp T.b_boxes_meet (a_cons (d_call (ok_box_around T) (hr.mono (by decide)) takes0 T.g_box_around T.F_box_around.kp T.b_box_around (a_cons (d_slc (d_var 2) o_none (o_some (d_var 10))) a_nil)) (a_cons (d_var 3) a_nil))))))))))))
  (ss_one (s_ret d_bl))
  ss_nil)))
  (ss_cons (s_for hp (i_seq (d_tup (a_cons d_non (a_cons d_int (a_cons (d_new (n_lstOf T.n_list boot_list (a_cons (d_var 2) a_nil))) (a_cons (d_tup (a_cons d_non a_nil)) (a_cons (d_op op_repT od_repT (d_var 2) d_int) a_nil))))))) (g_name 11 sc_law.nd)
  (ss_one (s_if (dt_cmp (op_neD hr.units) od_ne (d_new (n_lc (own := [("way", 13)]) sc_law.nd (j_of (i_rng2 T.n_range d_int d_int)) (blkOk_by (own := [("way", 13)]) (N := N_law) (sc := defScope s_law) (by decide +kernel)) (fun _ _ _ _ _ => (g_name 13 sc_law.nd)) (fun _ _ _ _ _ => ts_nil) (fun _ _ _ _ _ => (d_call (ok__law_error T) (hr.mono (by decide)) takes0 T.g__law_error T.F__law_error.kp T.b__law_error (a_cons (d_var 13) (a_cons (d_var 11) (a_cons d_non (a_cons d_non a_nil)))))))) (d_new (n_rep (l_new (n_lst (a_cons d_str a_nil))) d_int)) (nomark _))
  (ss_one (s_ret d_bl))
  ss_nil)))
  (ss_cons (s_if (dt_w (dw_or (dt_cmp (op_neD hr.units) od_ne (d_new (n_lc (own := [("wrong", 11)]) sc_law.nd (j_of (i_seq (d_tup (a_cons d_non (a_cons (d_tup a_nil) (a_cons (d_new (n_lstOf T.n_list boot_list (a_cons (d_var 2) a_nil))) (a_cons d_int a_nil))))))) (blkOk_by (own := [("wrong", 11)]) (N := N_law) (sc := defScope s_law) (by decide +kernel)) (fun _ _ _ _ _ => (g_name 11 sc_law.nd)) (fun _ _ _ _ _ => ts_nil) (fun _ _ _ _ _ => (d_call (ok__law_error T) (hr.mono (by decide)) takes0 T.g__law_error T.F__law_error.kp T.b__law_error (a_cons d_int (a_cons (d_var 11) (a_cons d_non (a_cons d_non a_nil)))))))) (d_new (n_rep (l_new (n_lst (a_cons d_str a_nil))) d_int)) (nomark _)) (dw_or (dt_cmp (op_neD hr.units) od_ne (d_call (ok__law_error T) (hr.mono (by decide)) tk T.g__law_error T.F__law_error.kp T.b__law_error (a_cons d_int (a_cons (d_tup a_nil) (a_cons d_non (a_cons d_non a_nil))))) d_str (nomark _)) (dw_or1 (dt_cmp (op_neD hr.units) od_ne (d_call (ok__law_error T) (hr.mono (by decide)) tk T.g__law_error T.F__law_error.kp T.b__law_error (a_cons d_int (a_cons (d_tup a_nil) (a_cons d_non (a_cons d_non a_nil))))) d_str (nomark _))))))
  (ss_one (s_ret d_bl))
  ss_nil)
  (ss_cons (s_set 12 sc_law.nd (d_call (ok_tree_of T) (hr.mono (by decide)) tk T.g_tree_of T.F_tree_of.kp T.b_tree_of (a_cons (d_var 2) a_nil)))
  (ss_cons (s_for hp (i_seq (d_tup (a_cons d_non (a_cons (d_tup a_nil) (a_cons (d_tup (a_cons d_str (a_cons d_int a_nil))) (a_cons (d_slc (d_var 12) o_none (o_some d_int)) a_nil)))))) (g_name 11 sc_law.nd)
  (ss_one (s_if (dt_cmp (op_neD hr.units) od_ne (d_new (n_lc (own := [("way", 13)]) sc_law.nd (j_of (i_seq (d_tup (a_cons d_int (a_cons d_int (a_cons d_int a_nil)))))) (blkOk_by (own := [("way", 13)]) (N := N_law) (sc := defScope s_law) (by decide +kernel)) (fun _ _ _ _ _ => (g_name 13 sc_law.nd)) (fun _ _ _ _ _ => ts_nil) (fun _ _ _ _ _ => (d_call (ok__law_error T) (hr.mono (by decide)) takes0 T.g__law_error T.F__law_error.kp T.b__law_error (a_cons (d_var 13) (a_cons (d_var 2) (a_cons (d_var 11) (a_cons d_non a_nil)))))))) (d_new (n_rep (l_new (n_lst (a_cons d_str a_nil))) d_int)) (nomark _))
  (ss_one (s_ret d_bl))
  ss_nil)))
  (ss_cons (s_for hp (i_seq (d_tup (a_cons d_non (a_cons (d_tup a_nil) (a_cons (d_slc (d_ix (d_var 2) d_int) o_none (o_some d_int)) (a_cons (d_tup (a_cons (d_tup (a_cons d_int (a_cons d_int a_nil))) (a_cons (d_tup (a_cons d_int (a_cons d_int a_nil))) a_nil))) a_nil)))))) (g_name 11 sc_law.nd)
  (ss_one (s_if (dt_cmp (op_neD hr.units) od_ne (d_new (n_lc (own := [("way", 13)]) sc_law.nd (j_of (i_seq (d_tup (a_cons d_int (a_cons d_int a_nil))))) (blkOk_by (own := [("way", 13)]) (N := N_law) (sc := defScope s_law) (by decide +kernel)) (fun _ _ _ _ _ => (g_name 13 sc_law.nd)) (fun _ _ _ _ _ => ts_nil) (fun _ _ _ _ _ => (d_call (ok__law_error T) (hr.mono (by decide)) takes0 T.g__law_error T.F__law_error.kp T.b__law_error (a_cons (d_var 13) (a_cons (d_var 2) (a_cons (d_var 12) (a_cons (d_var 11) a_nil)))))))) (d_new (n_rep (l_new (n_lst (a_cons d_str a_nil))) d_int)) (nomark _))
  (ss_one (s_ret d_bl))
  ss_nil)))
  (ss_one (s_ret d_bl)))))))))))
end
end Wk

namespace Wk
open PySem PySem.Spec PyProof.Rows L2 TD Dn
def spLaw (K : PySem.W.Frag) : Sp := fun vs H Q _ => ∃ (a : Addr) (ns : List Int), vs = [.ref a] ∧ ns.length ≤ 63 ∧ SqL K H a (ns.map V.int) ∧ ∀ H', Q (.bl true) H'
def mkTxt {K : PySem.W.Frag} {h : Heap} {mg : Str → Option Value} (X : K.In h) (G : h.Ns mainGlobals mg)
  {t_ENTERS : Tok}
  {t_FORK : Tok}
  {t_FORM : Addr} {to_FORM : Option Addr} {tn_FORM : Nat} {ts_FORM : Array (Option Value)} {tk0_FORM : Tok}
  {t_LEAF : Tok}
  {t_LEAVES : Tok}
  {t_MOST_BOXES : Tok}
  {t_MOST_DEEP : Tok}
  {C_BadBox : Addr}
  {C_BadBoxes : Addr}
  {C_BadTree : Addr}
  {C_TouchError : Addr}
  {f__law_draws : Addr} {od__law_draws an__law_draws : Option Addr} {sl__law_draws : Array (Option Value)} {oc__law_draws kV__law_draws dc__law_draws pm__law_draws cd__law_draws ct__law_draws : Value}
  {f__law_frac : Addr} {od__law_frac an__law_frac : Option Addr} {sl__law_frac : Array (Option Value)} {oc__law_frac kV__law_frac dc__law_frac pm__law_frac cd__law_frac ct__law_frac : Value}
  {f__law_plus : Addr} {od__law_plus an__law_plus : Option Addr} {sl__law_plus : Array (Option Value)} {oc__law_plus kV__law_plus dc__law_plus pm__law_plus cd__law_plus ct__law_plus : Value}
  {f__law_boxes : Addr} {od__law_boxes an__law_boxes : Option Addr} {sl__law_boxes : Array (Option Value)} {oc__law_boxes kV__law_boxes dc__law_boxes pm__law_boxes cd__law_boxes ct__law_boxes : Value}
  {f_order : Addr} {od_order an_order : Option Addr} {sl_order : Array (Option Value)} {oc_order kV_order dc_order pm_order cd_order ct_order : Value}
  {f_is_integer : Addr} {od_is_integer an_is_integer : Option Addr} {sl_is_integer : Array (Option Value)} {oc_is_integer kV_is_integer dc_is_integer pm_is_integer cd_is_integer ct_is_integer : Value}
  {f_divisor : Addr} {od_divisor an_divisor : Option Addr} {sl_divisor : Array (Option Value)} {oc_divisor kV_divisor dc_divisor pm_divisor cd_divisor ct_divisor : Value}
  {f_is_number : Addr} {od_is_number an_is_number : Option Addr} {sl_is_number : Array (Option Value)} {oc_is_number kV_is_number dc_is_number pm_is_number cd_is_number ct_is_number : Value}
  {f_is_span : Addr} {od_is_span an_is_span : Option Addr} {sl_is_span : Array (Option Value)} {oc_is_span kV_is_span dc_is_span pm_is_span cd_is_span ct_is_span : Value}
  {f_is_box : Addr} {od_is_box an_is_box : Option Addr} {sl_is_box : Array (Option Value)} {oc_is_box kV_is_box dc_is_box pm_is_box cd_is_box ct_is_box : Value}
  {f_check_boxes : Addr} {od_check_boxes an_check_boxes : Option Addr} {sl_check_boxes : Array (Option Value)} {oc_check_boxes kV_check_boxes dc_check_boxes pm_check_boxes cd_check_boxes ct_check_boxes : Value}
  {f_least_of : Addr} {od_least_of an_least_of : Option Addr} {sl_least_of : Array (Option Value)} {oc_least_of kV_least_of dc_least_of pm_least_of cd_least_of ct_least_of : Value}
  {f_greatest_of : Addr} {od_greatest_of an_greatest_of : Option Addr} {sl_greatest_of : Array (Option Value)} {oc_greatest_of kV_greatest_of dc_greatest_of pm_greatest_of cd_greatest_of ct_greatest_of : Value}
  {f__span_around : Addr} {od__span_around an__span_around : Option Addr} {sl__span_around : Array (Option Value)} {oc__span_around kV__span_around dc__span_around pm__span_around cd__span_around ct__span_around : Value}
  {f_around_by : Addr} {od_around_by an_around_by : Option Addr} {sl_around_by : Array (Option Value)} {oc_around_by kV_around_by dc_around_by pm_around_by cd_around_by ct_around_by : Value}
  {f__is_ahead : Addr} {od__is_ahead an__is_ahead : Option Addr} {sl__is_ahead : Array (Option Value)} {oc__is_ahead kV__is_ahead dc__is_ahead pm__is_ahead cd__is_ahead ct__is_ahead : Value}
  {f_in_order : Addr} {od_in_order an_in_order : Option Addr} {sl_in_order : Array (Option Value)} {oc_in_order kV_in_order dc_in_order pm_in_order cd_in_order ct_in_order : Value}
  {f_made : Addr} {od_made an_made : Option Addr} {sl_made : Array (Option Value)} {oc_made kV_made dc_made pm_made cd_made ct_made : Value}
  {f_difference : Addr} {od_difference an_difference : Option Addr} {sl_difference : Array (Option Value)} {oc_difference kV_difference dc_difference pm_difference cd_difference ct_difference : Value}
  {f_sum_of : Addr} {od_sum_of an_sum_of : Option Addr} {sl_sum_of : Array (Option Value)} {oc_sum_of kV_sum_of dc_sum_of pm_sum_of cd_sum_of ct_sum_of : Value}
  {f__made : Addr} {od__made an__made : Option Addr} {sl__made : Array (Option Value)} {oc__made kV__made dc__made pm__made cd__made ct__made : Value}
  {f_tree_of : Addr} {od_tree_of an_tree_of : Option Addr} {sl_tree_of : Array (Option Value)} {oc_tree_of kV_tree_of dc_tree_of pm_tree_of cd_tree_of ct_tree_of : Value}
  {f__law_is_number : Addr} {od__law_is_number an__law_is_number : Option Addr} {sl__law_is_number : Array (Option Value)} {oc__law_is_number kV__law_is_number dc__law_is_number pm__law_is_number cd__law_is_number ct__law_is_number : Value}
  {f__law_less : Addr} {od__law_less an__law_less : Option Addr} {sl__law_less : Array (Option Value)} {oc__law_less kV__law_less dc__law_less pm__law_less cd__law_less ct__law_less : Value}
  {f__law_is_box : Addr} {od__law_is_box an__law_is_box : Option Addr} {sl__law_is_box : Array (Option Value)} {oc__law_is_box kV__law_is_box dc__law_is_box pm__law_is_box cd__law_is_box ct__law_is_box : Value}
  {f_check_boxes_all : Addr} {od_check_boxes_all an_check_boxes_all : Option Addr} {sl_check_boxes_all : Array (Option Value)} {oc_check_boxes_all kV_check_boxes_all dc_check_boxes_all pm_check_boxes_all cd_check_boxes_all ct_check_boxes_all : Value}
  {f_spans_meet : Addr} {od_spans_meet an_spans_meet : Option Addr} {sl_spans_meet : Array (Option Value)} {oc_spans_meet kV_spans_meet dc_spans_meet pm_spans_meet cd_spans_meet ct_spans_meet : Value}
  {f_boxes_meet_by : Addr} {od_boxes_meet_by an_boxes_meet_by : Option Addr} {sl_boxes_meet_by : Array (Option Value)} {oc_boxes_meet_by kV_boxes_meet_by dc_boxes_meet_by pm_boxes_meet_by cd_boxes_meet_by ct_boxes_meet_by : Value}
  {f_boxes_meet : Addr} {od_boxes_meet an_boxes_meet : Option Addr} {sl_boxes_meet : Array (Option Value)} {oc_boxes_meet kV_boxes_meet dc_boxes_meet pm_boxes_meet cd_boxes_meet ct_boxes_meet : Value}
  {f_box_around : Addr} {od_box_around an_box_around : Option Addr} {sl_box_around : Array (Option Value)} {oc_box_around kV_box_around dc_box_around pm_box_around cd_box_around ct_box_around : Value}
  {f_swept_by : Addr} {od_swept_by an_swept_by : Option Addr} {sl_swept_by : Array (Option Value)} {oc_swept_by kV_swept_by dc_swept_by pm_swept_by cd_swept_by ct_swept_by : Value}
  {f_sweep_row : Addr} {od_sweep_row an_sweep_row : Option Addr} {sl_sweep_row : Array (Option Value)} {oc_sweep_row kV_sweep_row dc_sweep_row pm_sweep_row cd_sweep_row ct_sweep_row : Value}
  {f_sweep_pairs : Addr} {od_sweep_pairs an_sweep_pairs : Option Addr} {sl_sweep_pairs : Array (Option Value)} {oc_sweep_pairs kV_sweep_pairs dc_sweep_pairs pm_sweep_pairs cd_sweep_pairs ct_sweep_pairs : Value}
  {f__is_within : Addr} {od__is_within an__is_within : Option Addr} {sl__is_within : Array (Option Value)} {oc__is_within kV__is_within dc__is_within pm__is_within cd__is_within ct__is_within : Value}
  {f_numbers_in : Addr} {od_numbers_in an_numbers_in : Option Addr} {sl_numbers_in : Array (Option Value)} {oc_numbers_in kV_numbers_in dc_numbers_in pm_numbers_in cd_numbers_in ct_numbers_in : Value}
  {f__fork_fault : Addr} {od__fork_fault an__fork_fault : Option Addr} {sl__fork_fault : Array (Option Value)} {oc__fork_fault kV__fork_fault dc__fork_fault pm__fork_fault cd__fork_fault ct__fork_fault : Value}
  {f__is_tree : Addr} {od__is_tree an__is_tree : Option Addr} {sl__is_tree : Array (Option Value)} {oc__is_tree kV__is_tree dc__is_tree pm__is_tree cd__is_tree ct__is_tree : Value}
  {f_tree_fault : Addr} {od_tree_fault an_tree_fault : Option Addr} {sl_tree_fault : Array (Option Value)} {oc_tree_fault kV_tree_fault dc_tree_fault pm_tree_fault cd_tree_fault ct_tree_fault : Value}
  {f__check : Addr} {od__check an__check : Option Addr} {sl__check : Array (Option Value)} {oc__check kV__check dc__check pm__check cd__check ct__check : Value}
  {f__looked : Addr} {od__looked an__looked : Option Addr} {sl__looked : Array (Option Value)} {oc__looked kV__looked dc__looked pm__looked cd__looked ct__looked : Value}
  {f_found_by : Addr} {od_found_by an_found_by : Option Addr} {sl_found_by : Array (Option Value)} {oc_found_by kV_found_by dc_found_by pm_found_by cd_found_by ct_found_by : Value}
  {f_looks_by : Addr} {od_looks_by an_looks_by : Option Addr} {sl_looks_by : Array (Option Value)} {oc_looks_by kV_looks_by dc_looks_by pm_looks_by cd_looks_by ct_looks_by : Value}
  {f_pairs_found : Addr} {od_pairs_found an_pairs_found : Option Addr} {sl_pairs_found : Array (Option Value)} {oc_pairs_found kV_pairs_found dc_pairs_found pm_pairs_found cd_pairs_found ct_pairs_found : Value}
  {f__law_error : Addr} {od__law_error an__law_error : Option Addr} {sl__law_error : Array (Option Value)} {oc__law_error kV__law_error dc__law_error pm__law_error cd__law_error ct__law_error : Value}
  {f__law_edge : Addr} {od__law_edge an__law_edge : Option Addr} {sl__law_edge : Array (Option Value)} {oc__law_edge kV__law_edge dc__law_edge pm__law_edge cd__law_edge ct__law_edge : Value}
  {f__law_around : Addr} {od__law_around an__law_around : Option Addr} {sl__law_around : Array (Option Value)} {oc__law_around kV__law_around dc__law_around pm__law_around cd__law_around ct__law_around : Value}
  {f__law_meet : Addr} {od__law_meet an__law_meet : Option Addr} {sl__law_meet : Array (Option Value)} {oc__law_meet kV__law_meet dc__law_meet pm__law_meet cd__law_meet ct__law_meet : Value}
  {f_law : Addr} {od_law an_law : Option Addr} {sl_law : Array (Option Value)} {oc_law kV_law dc_law pm_law cd_law ct_law : Value}
  {C_K fI_K fL_K : Addr} {odI anI odL anL : Option Addr} {slI slL : Array (Option Value)} {ocI kVI dcI pmI cdI ctI ocL kVL dcL pmL cdL ctL : Value}
  (z_abs : PySem.W.nsIn K mainGlobals "abs" = some none)
  (z_all : PySem.W.nsIn K mainGlobals "all" = some none)
  (z_any : PySem.W.nsIn K mainGlobals "any" = some none)
  (z_bool : PySem.W.nsIn K mainGlobals "bool" = some none)
  (z_enumerate : PySem.W.nsIn K mainGlobals "enumerate" = some none)
  (z_int : PySem.W.nsIn K mainGlobals "int" = some none)
  (z_isinstance : PySem.W.nsIn K mainGlobals "isinstance" = some none)
  (z_len : PySem.W.nsIn K mainGlobals "len" = some none)
  (z_list : PySem.W.nsIn K mainGlobals "list" = some none)
  (z_max : PySem.W.nsIn K mainGlobals "max" = some none)
  (z_min : PySem.W.nsIn K mainGlobals "min" = some none)
  (z_range : PySem.W.nsIn K mainGlobals "range" = some none)
  (z_sorted : PySem.W.nsIn K mainGlobals "sorted" = some none)
  (z_str : PySem.W.nsIn K mainGlobals "str" = some none)
  (z_tuple : PySem.W.nsIn K mainGlobals "tuple" = some none)
  (k_ENTERS : PySem.W.nsIn K mainGlobals "ENTERS" = some (some (.str "in" t_ENTERS)))
  (k_FORK : PySem.W.nsIn K mainGlobals "FORK" = some (some (.str "fork" t_FORK)))
  (k_FORM : PySem.W.nsIn K mainGlobals "FORM" = some (some (.ref t_FORM))) (kt_FORM : K.lookup t_FORM = some ⟨.type "tuple", to_FORM, .seq #[.str "form" tk0_FORM] tn_FORM, ts_FORM⟩)
  (k_LEAF : PySem.W.nsIn K mainGlobals "LEAF" = some (some (.str "leaf" t_LEAF)))
  (k_LEAVES : PySem.W.nsIn K mainGlobals "LEAVES" = some (some (.str "out" t_LEAVES)))
  (k_MOST_BOXES : PySem.W.nsIn K mainGlobals "MOST_BOXES" = some (some (.int 60 t_MOST_BOXES)))
  (k_MOST_DEEP : PySem.W.nsIn K mainGlobals "MOST_DEEP" = some (some (.int 60 t_MOST_DEEP)))
  (xa_BadBox : PySem.W.nsIn K mainGlobals "BadBox" = some (some (.ref C_BadBox))) (xe_BadBox : PySem.W.excIn K C_BadBox [.type "ValueError", .type "Exception", .type "BaseException", .type "object"] "ValueError.__new__" = true) (xk_BadBox : PySem.W.keepIn K (.ref C_BadBox) = true) (xb_BadBox : PySem.W.subIn K (.ref C_BadBox) (.type "BaseException") = some true) (xt_BadBox : PySem.W.typeIn K (.ref C_BadBox) = some (.type "type")) (xd_BadBox : PySem.W.hasDictIn K C_BadBox = true)
  (xa_BadBoxes : PySem.W.nsIn K mainGlobals "BadBoxes" = some (some (.ref C_BadBoxes))) (xe_BadBoxes : PySem.W.excIn K C_BadBoxes [.type "ValueError", .type "Exception", .type "BaseException", .type "object"] "ValueError.__new__" = true) (xk_BadBoxes : PySem.W.keepIn K (.ref C_BadBoxes) = true) (xb_BadBoxes : PySem.W.subIn K (.ref C_BadBoxes) (.type "BaseException") = some true) (xt_BadBoxes : PySem.W.typeIn K (.ref C_BadBoxes) = some (.type "type")) (xd_BadBoxes : PySem.W.hasDictIn K C_BadBoxes = true)
  (xa_BadTree : PySem.W.nsIn K mainGlobals "BadTree" = some (some (.ref C_BadTree))) (xe_BadTree : PySem.W.excIn K C_BadTree [.type "ValueError", .type "Exception", .type "BaseException", .type "object"] "ValueError.__new__" = true) (xk_BadTree : PySem.W.keepIn K (.ref C_BadTree) = true) (xb_BadTree : PySem.W.subIn K (.ref C_BadTree) (.type "BaseException") = some true) (xt_BadTree : PySem.W.typeIn K (.ref C_BadTree) = some (.type "type")) (xd_BadTree : PySem.W.hasDictIn K C_BadTree = true)
  (s_BadBox_BadBox : PySem.W.subIn K (.ref C_BadBox) (.ref C_BadBox) = some true)
  (s_BadBox_BadBoxes : PySem.W.subIn K (.ref C_BadBox) (.ref C_BadBoxes) = some false)
  (s_BadBox_BadTree : PySem.W.subIn K (.ref C_BadBox) (.ref C_BadTree) = some false)
  (s_BadBoxes_BadBox : PySem.W.subIn K (.ref C_BadBoxes) (.ref C_BadBox) = some false)
  (s_BadBoxes_BadBoxes : PySem.W.subIn K (.ref C_BadBoxes) (.ref C_BadBoxes) = some true)
  (s_BadBoxes_BadTree : PySem.W.subIn K (.ref C_BadBoxes) (.ref C_BadTree) = some false)
  (s_BadTree_BadBox : PySem.W.subIn K (.ref C_BadTree) (.ref C_BadBox) = some false)
  (s_BadTree_BadBoxes : PySem.W.subIn K (.ref C_BadTree) (.ref C_BadBoxes) = some false)
  (s_BadTree_BadTree : PySem.W.subIn K (.ref C_BadTree) (.ref C_BadTree) = some true)
  (xa_TouchError : PySem.W.nsIn K mainGlobals "TouchError" = some (some (.ref C_TouchError)))
  (eg_BadBox : PySem.W.findIn K (.ref C_BadBox) "__getattribute__" = some (some (.builtin "BaseException.__getattribute__"))) (ek_BadBox : PySem.W.findIn K (.ref C_BadBox) "__getattr__" = some none) (ea_BadBox : PySem.W.findIn K (.ref C_BadBox) "__class__" = some (some (.builtin "object.__class__"))) (en_BadBox : PySem.W.specialIn K (.builtin "object.__class__") "__get__" = some (some (.builtin "getset_descriptor.__get__"))) (et_BadBox : PySem.W.takesIn K (.builtin "object.__class__") = some true) (em_BadBox : PySem.W.mroIn K C_BadBox (.type "object") = some true)
  (eg_BadBoxes : PySem.W.findIn K (.ref C_BadBoxes) "__getattribute__" = some (some (.builtin "BaseException.__getattribute__"))) (ek_BadBoxes : PySem.W.findIn K (.ref C_BadBoxes) "__getattr__" = some none) (ea_BadBoxes : PySem.W.findIn K (.ref C_BadBoxes) "__class__" = some (some (.builtin "object.__class__"))) (en_BadBoxes : PySem.W.specialIn K (.builtin "object.__class__") "__get__" = some (some (.builtin "getset_descriptor.__get__"))) (et_BadBoxes : PySem.W.takesIn K (.builtin "object.__class__") = some true) (em_BadBoxes : PySem.W.mroIn K C_BadBoxes (.type "object") = some true)
  (eg_BadTree : PySem.W.findIn K (.ref C_BadTree) "__getattribute__" = some (some (.builtin "BaseException.__getattribute__"))) (ek_BadTree : PySem.W.findIn K (.ref C_BadTree) "__getattr__" = some none) (ea_BadTree : PySem.W.findIn K (.ref C_BadTree) "__class__" = some (some (.builtin "object.__class__"))) (en_BadTree : PySem.W.specialIn K (.builtin "object.__class__") "__get__" = some (some (.builtin "getset_descriptor.__get__"))) (et_BadTree : PySem.W.takesIn K (.builtin "object.__class__") = some true) (em_BadTree : PySem.W.mroIn K C_BadTree (.type "object") = some true)
  (hx_BadBox__BadBox_BadBoxes : PySem.W.exmAny K (.ref C_BadBox) [.ref C_BadBox, .ref C_BadBoxes] = some true)
  (hx_BadBoxes__BadBox_BadBoxes : PySem.W.exmAny K (.ref C_BadBoxes) [.ref C_BadBox, .ref C_BadBoxes] = some true)
  (hx_BadTree__BadBox_BadBoxes : PySem.W.exmAny K (.ref C_BadTree) [.ref C_BadBox, .ref C_BadBoxes] = some false)
  (hx_BadTree__TouchError : PySem.W.exmOne K (.ref C_BadTree) (.ref C_TouchError) = some true)
  (ki_BadBox_BadBox : PySem.W.kitOne K (.ref C_BadBox) (.ref C_BadBox) = some true)
  (ki_BadBoxes_BadBox : PySem.W.kitOne K (.ref C_BadBoxes) (.ref C_BadBox) = some false)
  (ki_BadTree_BadTree : PySem.W.kitOne K (.ref C_BadTree) (.ref C_BadTree) = some true)
  (a__law_draws : PySem.W.nsIn K mainGlobals "_law_draws" = some (some (.ref f__law_draws))) (l__law_draws : K.lookup f__law_draws = some ⟨oc__law_draws, od__law_draws, .func (PySem.W.fnOf "_law_draws" "_law_draws" (defArgs s__law_draws) (defBody s__law_draws) (defScope s__law_draws) .none kV__law_draws dc__law_draws pm__law_draws an__law_draws cd__law_draws ct__law_draws), sl__law_draws⟩) (c__law_draws : PySem.W.codeIn K cd__law_draws "_law_draws" = true) (k__law_draws : PySem.W.keepIn K (.ref f__law_draws) = true)
  (a__law_frac : PySem.W.nsIn K mainGlobals "_law_frac" = some (some (.ref f__law_frac))) (l__law_frac : K.lookup f__law_frac = some ⟨oc__law_frac, od__law_frac, .func (PySem.W.fnOf "_law_frac" "_law_frac" (defArgs s__law_frac) (defBody s__law_frac) (defScope s__law_frac) .none kV__law_frac dc__law_frac pm__law_frac an__law_frac cd__law_frac ct__law_frac), sl__law_frac⟩) (c__law_frac : PySem.W.codeIn K cd__law_frac "_law_frac" = true) (k__law_frac : PySem.W.keepIn K (.ref f__law_frac) = true)
  (a__law_plus : PySem.W.nsIn K mainGlobals "_law_plus" = some (some (.ref f__law_plus))) (l__law_plus : K.lookup f__law_plus = some ⟨oc__law_plus, od__law_plus, .func (PySem.W.fnOf "_law_plus" "_law_plus" (defArgs s__law_plus) (defBody s__law_plus) (defScope s__law_plus) .none kV__law_plus dc__law_plus pm__law_plus an__law_plus cd__law_plus ct__law_plus), sl__law_plus⟩) (c__law_plus : PySem.W.codeIn K cd__law_plus "_law_plus" = true) (k__law_plus : PySem.W.keepIn K (.ref f__law_plus) = true)
  (a__law_boxes : PySem.W.nsIn K mainGlobals "_law_boxes" = some (some (.ref f__law_boxes))) (l__law_boxes : K.lookup f__law_boxes = some ⟨oc__law_boxes, od__law_boxes, .func (PySem.W.fnOf "_law_boxes" "_law_boxes" (defArgs s__law_boxes) (defBody s__law_boxes) (defScope s__law_boxes) .none kV__law_boxes dc__law_boxes pm__law_boxes an__law_boxes cd__law_boxes ct__law_boxes), sl__law_boxes⟩) (c__law_boxes : PySem.W.codeIn K cd__law_boxes "_law_boxes" = true) (k__law_boxes : PySem.W.keepIn K (.ref f__law_boxes) = true)
  (a_order : PySem.W.nsIn K mainGlobals "order" = some (some (.ref f_order))) (l_order : K.lookup f_order = some ⟨oc_order, od_order, .func (PySem.W.fnOf "order" "order" (defArgs s_order) (defBody s_order) (defScope s_order) .none kV_order dc_order pm_order an_order cd_order ct_order), sl_order⟩) (c_order : PySem.W.codeIn K cd_order "order" = true) (k_order : PySem.W.keepIn K (.ref f_order) = true)
  (a_is_integer : PySem.W.nsIn K mainGlobals "is_integer" = some (some (.ref f_is_integer))) (l_is_integer : K.lookup f_is_integer = some ⟨oc_is_integer, od_is_integer, .func (PySem.W.fnOf "is_integer" "is_integer" (defArgs s_is_integer) (defBody s_is_integer) (defScope s_is_integer) .none kV_is_integer dc_is_integer pm_is_integer an_is_integer cd_is_integer ct_is_integer), sl_is_integer⟩) (c_is_integer : PySem.W.codeIn K cd_is_integer "is_integer" = true) (k_is_integer : PySem.W.keepIn K (.ref f_is_integer) = true)
  (a_divisor : PySem.W.nsIn K mainGlobals "divisor" = some (some (.ref f_divisor))) (l_divisor : K.lookup f_divisor = some ⟨oc_divisor, od_divisor, .func (PySem.W.fnOf "divisor" "divisor" (defArgs s_divisor) (defBody s_divisor) (defScope s_divisor) .none kV_divisor dc_divisor pm_divisor an_divisor cd_divisor ct_divisor), sl_divisor⟩) (c_divisor : PySem.W.codeIn K cd_divisor "divisor" = true) (k_divisor : PySem.W.keepIn K (.ref f_divisor) = true)
  (a_is_number : PySem.W.nsIn K mainGlobals "is_number" = some (some (.ref f_is_number))) (l_is_number : K.lookup f_is_number = some ⟨oc_is_number, od_is_number, .func (PySem.W.fnOf "is_number" "is_number" (defArgs s_is_number) (defBody s_is_number) (defScope s_is_number) .none kV_is_number dc_is_number pm_is_number an_is_number cd_is_number ct_is_number), sl_is_number⟩) (c_is_number : PySem.W.codeIn K cd_is_number "is_number" = true) (k_is_number : PySem.W.keepIn K (.ref f_is_number) = true)
  (a_is_span : PySem.W.nsIn K mainGlobals "is_span" = some (some (.ref f_is_span))) (l_is_span : K.lookup f_is_span = some ⟨oc_is_span, od_is_span, .func (PySem.W.fnOf "is_span" "is_span" (defArgs s_is_span) (defBody s_is_span) (defScope s_is_span) .none kV_is_span dc_is_span pm_is_span an_is_span cd_is_span ct_is_span), sl_is_span⟩) (c_is_span : PySem.W.codeIn K cd_is_span "is_span" = true) (k_is_span : PySem.W.keepIn K (.ref f_is_span) = true)
  (a_is_box : PySem.W.nsIn K mainGlobals "is_box" = some (some (.ref f_is_box))) (l_is_box : K.lookup f_is_box = some ⟨oc_is_box, od_is_box, .func (PySem.W.fnOf "is_box" "is_box" (defArgs s_is_box) (defBody s_is_box) (defScope s_is_box) .none kV_is_box dc_is_box pm_is_box an_is_box cd_is_box ct_is_box), sl_is_box⟩) (c_is_box : PySem.W.codeIn K cd_is_box "is_box" = true) (k_is_box : PySem.W.keepIn K (.ref f_is_box) = true)
  (a_check_boxes : PySem.W.nsIn K mainGlobals "check_boxes" = some (some (.ref f_check_boxes))) (l_check_boxes : K.lookup f_check_boxes = some ⟨oc_check_boxes, od_check_boxes, .func (PySem.W.fnOf "check_boxes" "check_boxes" (defArgs s_check_boxes) (defBody s_check_boxes) (defScope s_check_boxes) .none kV_check_boxes dc_check_boxes pm_check_boxes an_check_boxes cd_check_boxes ct_check_boxes), sl_check_boxes⟩) (c_check_boxes : PySem.W.codeIn K cd_check_boxes "check_boxes" = true) (k_check_boxes : PySem.W.keepIn K (.ref f_check_boxes) = true)
  (a_least_of : PySem.W.nsIn K mainGlobals "least_of" = some (some (.ref f_least_of))) (l_least_of : K.lookup f_least_of = some ⟨oc_least_of, od_least_of, .func (PySem.W.fnOf "least_of" "least_of" (defArgs s_least_of) (defBody s_least_of) (defScope s_least_of) .none kV_least_of dc_least_of pm_least_of an_least_of cd_least_of ct_least_of), sl_least_of⟩) (c_least_of : PySem.W.codeIn K cd_least_of "least_of" = true) (k_least_of : PySem.W.keepIn K (.ref f_least_of) = true)
  (a_greatest_of : PySem.W.nsIn K mainGlobals "greatest_of" = some (some (.ref f_greatest_of))) (l_greatest_of : K.lookup f_greatest_of = some ⟨oc_greatest_of, od_greatest_of, .func (PySem.W.fnOf "greatest_of" "greatest_of" (defArgs s_greatest_of) (defBody s_greatest_of) (defScope s_greatest_of) .none kV_greatest_of dc_greatest_of pm_greatest_of an_greatest_of cd_greatest_of ct_greatest_of), sl_greatest_of⟩) (c_greatest_of : PySem.W.codeIn K cd_greatest_of "greatest_of" = true) (k_greatest_of : PySem.W.keepIn K (.ref f_greatest_of) = true)
  (a__span_around : PySem.W.nsIn K mainGlobals "_span_around" = some (some (.ref f__span_around))) (l__span_around : K.lookup f__span_around = some ⟨oc__span_around, od__span_around, .func (PySem.W.fnOf "_span_around" "_span_around" (defArgs s__span_around) (defBody s__span_around) (defScope s__span_around) .none kV__span_around dc__span_around pm__span_around an__span_around cd__span_around ct__span_around), sl__span_around⟩) (c__span_around : PySem.W.codeIn K cd__span_around "_span_around" = true) (k__span_around : PySem.W.keepIn K (.ref f__span_around) = true)
  (a_around_by : PySem.W.nsIn K mainGlobals "around_by" = some (some (.ref f_around_by))) (l_around_by : K.lookup f_around_by = some ⟨oc_around_by, od_around_by, .func (PySem.W.fnOf "around_by" "around_by" (defArgs s_around_by) (defBody s_around_by) (defScope s_around_by) .none kV_around_by dc_around_by pm_around_by an_around_by cd_around_by ct_around_by), sl_around_by⟩) (c_around_by : PySem.W.codeIn K cd_around_by "around_by" = true) (k_around_by : PySem.W.keepIn K (.ref f_around_by) = true)
  (a__is_ahead : PySem.W.nsIn K mainGlobals "_is_ahead" = some (some (.ref f__is_ahead))) (l__is_ahead : K.lookup f__is_ahead = some ⟨oc__is_ahead, od__is_ahead, .func (PySem.W.fnOf "_is_ahead" "_is_ahead" (defArgs s__is_ahead) (defBody s__is_ahead) (defScope s__is_ahead) .none kV__is_ahead dc__is_ahead pm__is_ahead an__is_ahead cd__is_ahead ct__is_ahead), sl__is_ahead⟩) (c__is_ahead : PySem.W.codeIn K cd__is_ahead "_is_ahead" = true) (k__is_ahead : PySem.W.keepIn K (.ref f__is_ahead) = true)
  (a_in_order : PySem.W.nsIn K mainGlobals "in_order" = some (some (.ref f_in_order))) (l_in_order : K.lookup f_in_order = some ⟨oc_in_order, od_in_order, .func (PySem.W.fnOf "in_order" "in_order" (defArgs s_in_order) (defBody s_in_order) (defScope s_in_order) .none kV_in_order dc_in_order pm_in_order an_in_order cd_in_order ct_in_order), sl_in_order⟩) (c_in_order : PySem.W.codeIn K cd_in_order "in_order" = true) (k_in_order : PySem.W.keepIn K (.ref f_in_order) = true)
  (a_made : PySem.W.nsIn K mainGlobals "made" = some (some (.ref f_made))) (l_made : K.lookup f_made = some ⟨oc_made, od_made, .func (PySem.W.fnOf "made" "made" (defArgs s_made) (defBody s_made) (defScope s_made) .none kV_made dc_made pm_made an_made cd_made ct_made), sl_made⟩) (c_made : PySem.W.codeIn K cd_made "made" = true) (k_made : PySem.W.keepIn K (.ref f_made) = true)
  (a_difference : PySem.W.nsIn K mainGlobals "difference" = some (some (.ref f_difference))) (l_difference : K.lookup f_difference = some ⟨oc_difference, od_difference, .func (PySem.W.fnOf "difference" "difference" (defArgs s_difference) (defBody s_difference) (defScope s_difference) .none kV_difference dc_difference pm_difference an_difference cd_difference ct_difference), sl_difference⟩) (c_difference : PySem.W.codeIn K cd_difference "difference" = true) (k_difference : PySem.W.keepIn K (.ref f_difference) = true)
  (a_sum_of : PySem.W.nsIn K mainGlobals "sum_of" = some (some (.ref f_sum_of))) (l_sum_of : K.lookup f_sum_of = some ⟨oc_sum_of, od_sum_of, .func (PySem.W.fnOf "sum_of" "sum_of" (defArgs s_sum_of) (defBody s_sum_of) (defScope s_sum_of) .none kV_sum_of dc_sum_of pm_sum_of an_sum_of cd_sum_of ct_sum_of), sl_sum_of⟩) (c_sum_of : PySem.W.codeIn K cd_sum_of "sum_of" = true) (k_sum_of : PySem.W.keepIn K (.ref f_sum_of) = true)
  (a__made : PySem.W.nsIn K mainGlobals "_made" = some (some (.ref f__made))) (l__made : K.lookup f__made = some ⟨oc__made, od__made, .func (PySem.W.fnOf "_made" "_made" (defArgs s__made) (defBody s__made) (defScope s__made) .none kV__made dc__made pm__made an__made cd__made ct__made), sl__made⟩) (c__made : PySem.W.codeIn K cd__made "_made" = true) (k__made : PySem.W.keepIn K (.ref f__made) = true)
  (a_tree_of : PySem.W.nsIn K mainGlobals "tree_of" = some (some (.ref f_tree_of))) (l_tree_of : K.lookup f_tree_of = some ⟨oc_tree_of, od_tree_of, .func (PySem.W.fnOf "tree_of" "tree_of" (defArgs s_tree_of) (defBody s_tree_of) (defScope s_tree_of) .none kV_tree_of dc_tree_of pm_tree_of an_tree_of cd_tree_of ct_tree_of), sl_tree_of⟩) (c_tree_of : PySem.W.codeIn K cd_tree_of "tree_of" = true) (k_tree_of : PySem.W.keepIn K (.ref f_tree_of) = true)
  (a__law_is_number : PySem.W.nsIn K mainGlobals "_law_is_number" = some (some (.ref f__law_is_number))) (l__law_is_number : K.lookup f__law_is_number = some ⟨oc__law_is_number, od__law_is_number, .func (PySem.W.fnOf "_law_is_number" "_law_is_number" (defArgs s__law_is_number) (defBody s__law_is_number) (defScope s__law_is_number) .none kV__law_is_number dc__law_is_number pm__law_is_number an__law_is_number cd__law_is_number ct__law_is_number), sl__law_is_number⟩) (c__law_is_number : PySem.W.codeIn K cd__law_is_number "_law_is_number" = true) (k__law_is_number : PySem.W.keepIn K (.ref f__law_is_number) = true)
  (a__law_less : PySem.W.nsIn K mainGlobals "_law_less" = some (some (.ref f__law_less))) (l__law_less : K.lookup f__law_less = some ⟨oc__law_less, od__law_less, .func (PySem.W.fnOf "_law_less" "_law_less" (defArgs s__law_less) (defBody s__law_less) (defScope s__law_less) .none kV__law_less dc__law_less pm__law_less an__law_less cd__law_less ct__law_less), sl__law_less⟩) (c__law_less : PySem.W.codeIn K cd__law_less "_law_less" = true) (k__law_less : PySem.W.keepIn K (.ref f__law_less) = true)
  (a__law_is_box : PySem.W.nsIn K mainGlobals "_law_is_box" = some (some (.ref f__law_is_box))) (l__law_is_box : K.lookup f__law_is_box = some ⟨oc__law_is_box, od__law_is_box, .func (PySem.W.fnOf "_law_is_box" "_law_is_box" (defArgs s__law_is_box) (defBody s__law_is_box) (defScope s__law_is_box) .none kV__law_is_box dc__law_is_box pm__law_is_box an__law_is_box cd__law_is_box ct__law_is_box), sl__law_is_box⟩) (c__law_is_box : PySem.W.codeIn K cd__law_is_box "_law_is_box" = true) (k__law_is_box : PySem.W.keepIn K (.ref f__law_is_box) = true)
  (a_check_boxes_all : PySem.W.nsIn K mainGlobals "check_boxes_all" = some (some (.ref f_check_boxes_all))) (l_check_boxes_all : K.lookup f_check_boxes_all = some ⟨oc_check_boxes_all, od_check_boxes_all, .func (PySem.W.fnOf "check_boxes_all" "check_boxes_all" (defArgs s_check_boxes_all) (defBody s_check_boxes_all) (defScope s_check_boxes_all) .none kV_check_boxes_all dc_check_boxes_all pm_check_boxes_all an_check_boxes_all cd_check_boxes_all ct_check_boxes_all), sl_check_boxes_all⟩) (c_check_boxes_all : PySem.W.codeIn K cd_check_boxes_all "check_boxes_all" = true) (k_check_boxes_all : PySem.W.keepIn K (.ref f_check_boxes_all) = true)
  (a_spans_meet : PySem.W.nsIn K mainGlobals "spans_meet" = some (some (.ref f_spans_meet))) (l_spans_meet : K.lookup f_spans_meet = some ⟨oc_spans_meet, od_spans_meet, .func (PySem.W.fnOf "spans_meet" "spans_meet" (defArgs s_spans_meet) (defBody s_spans_meet) (defScope s_spans_meet) .none kV_spans_meet dc_spans_meet pm_spans_meet an_spans_meet cd_spans_meet ct_spans_meet), sl_spans_meet⟩) (c_spans_meet : PySem.W.codeIn K cd_spans_meet "spans_meet" = true) (k_spans_meet : PySem.W.keepIn K (.ref f_spans_meet) = true)
  (a_boxes_meet_by : PySem.W.nsIn K mainGlobals "boxes_meet_by" = some (some (.ref f_boxes_meet_by))) (l_boxes_meet_by : K.lookup f_boxes_meet_by = some ⟨oc_boxes_meet_by, od_boxes_meet_by, .func (PySem.W.fnOf "boxes_meet_by" "boxes_meet_by" (defArgs s_boxes_meet_by) (defBody s_boxes_meet_by) (defScope s_boxes_meet_by) .none kV_boxes_meet_by dc_boxes_meet_by pm_boxes_meet_by an_boxes_meet_by cd_boxes_meet_by ct_boxes_meet_by), sl_boxes_meet_by⟩) (c_boxes_meet_by : PySem.W.codeIn K cd_boxes_meet_by "boxes_meet_by" = true) (k_boxes_meet_by : PySem.W.keepIn K (.ref f_boxes_meet_by) = true)
  (a_boxes_meet : PySem.W.nsIn K mainGlobals "boxes_meet" = some (some (.ref f_boxes_meet))) (l_boxes_meet : K.lookup f_boxes_meet = some ⟨oc_boxes_meet, od_boxes_meet, .func (PySem.W.fnOf "boxes_meet" "boxes_meet" (defArgs s_boxes_meet) (defBody s_boxes_meet) (defScope s_boxes_meet) .none kV_boxes_meet dc_boxes_meet pm_boxes_meet an_boxes_meet cd_boxes_meet ct_boxes_meet), sl_boxes_meet⟩) (c_boxes_meet : PySem.W.codeIn K cd_boxes_meet "boxes_meet" = true) (k_boxes_meet : PySem.W.keepIn K (.ref f_boxes_meet) = true)
  (a_box_around : PySem.W.nsIn K mainGlobals "box_around" = some (some (.ref f_box_around))) (l_box_around : K.lookup f_box_around = some ⟨oc_box_around, od_box_around, .func (PySem.W.fnOf "box_around" "box_around" (defArgs s_box_around) (defBody s_box_around) (defScope s_box_around) .none kV_box_around dc_box_around pm_box_around an_box_around cd_box_around ct_box_around), sl_box_around⟩) (c_box_around : PySem.W.codeIn K cd_box_around "box_around" = true) (k_box_around : PySem.W.keepIn K (.ref f_box_around) = true)
  (a_swept_by : PySem.W.nsIn K mainGlobals "swept_by" = some (some (.ref f_swept_by))) (l_swept_by : K.lookup f_swept_by = some ⟨oc_swept_by, od_swept_by, .func (PySem.W.fnOf "swept_by" "swept_by" (defArgs s_swept_by) (defBody s_swept_by) (defScope s_swept_by) .none kV_swept_by dc_swept_by pm_swept_by an_swept_by cd_swept_by ct_swept_by), sl_swept_by⟩) (c_swept_by : PySem.W.codeIn K cd_swept_by "swept_by" = true) (k_swept_by : PySem.W.keepIn K (.ref f_swept_by) = true)
  (a_sweep_row : PySem.W.nsIn K mainGlobals "sweep_row" = some (some (.ref f_sweep_row))) (l_sweep_row : K.lookup f_sweep_row = some ⟨oc_sweep_row, od_sweep_row, .func (PySem.W.fnOf "sweep_row" "sweep_row" (defArgs s_sweep_row) (defBody s_sweep_row) (defScope s_sweep_row) .none kV_sweep_row dc_sweep_row pm_sweep_row an_sweep_row cd_sweep_row ct_sweep_row), sl_sweep_row⟩) (c_sweep_row : PySem.W.codeIn K cd_sweep_row "sweep_row" = true) (k_sweep_row : PySem.W.keepIn K (.ref f_sweep_row) = true)
  (a_sweep_pairs : PySem.W.nsIn K mainGlobals "sweep_pairs" = some (some (.ref f_sweep_pairs))) (l_sweep_pairs : K.lookup f_sweep_pairs = some ⟨oc_sweep_pairs, od_sweep_pairs, .func (PySem.W.fnOf "sweep_pairs" "sweep_pairs" (defArgs s_sweep_pairs) (defBody s_sweep_pairs) (defScope s_sweep_pairs) .none kV_sweep_pairs dc_sweep_pairs pm_sweep_pairs an_sweep_pairs cd_sweep_pairs ct_sweep_pairs), sl_sweep_pairs⟩) (c_sweep_pairs : PySem.W.codeIn K cd_sweep_pairs "sweep_pairs" = true) (k_sweep_pairs : PySem.W.keepIn K (.ref f_sweep_pairs) = true)
  (a__is_within : PySem.W.nsIn K mainGlobals "_is_within" = some (some (.ref f__is_within))) (l__is_within : K.lookup f__is_within = some ⟨oc__is_within, od__is_within, .func (PySem.W.fnOf "_is_within" "_is_within" (defArgs s__is_within) (defBody s__is_within) (defScope s__is_within) .none kV__is_within dc__is_within pm__is_within an__is_within cd__is_within ct__is_within), sl__is_within⟩) (c__is_within : PySem.W.codeIn K cd__is_within "_is_within" = true) (k__is_within : PySem.W.keepIn K (.ref f__is_within) = true)
  (a_numbers_in : PySem.W.nsIn K mainGlobals "numbers_in" = some (some (.ref f_numbers_in))) (l_numbers_in : K.lookup f_numbers_in = some ⟨oc_numbers_in, od_numbers_in, .func (PySem.W.fnOf "numbers_in" "numbers_in" (defArgs s_numbers_in) (defBody s_numbers_in) (defScope s_numbers_in) .none kV_numbers_in dc_numbers_in pm_numbers_in an_numbers_in cd_numbers_in ct_numbers_in), sl_numbers_in⟩) (c_numbers_in : PySem.W.codeIn K cd_numbers_in "numbers_in" = true) (k_numbers_in : PySem.W.keepIn K (.ref f_numbers_in) = true)
  (a__fork_fault : PySem.W.nsIn K mainGlobals "_fork_fault" = some (some (.ref f__fork_fault))) (l__fork_fault : K.lookup f__fork_fault = some ⟨oc__fork_fault, od__fork_fault, .func (PySem.W.fnOf "_fork_fault" "_fork_fault" (defArgs s__fork_fault) (defBody s__fork_fault) (defScope s__fork_fault) .none kV__fork_fault dc__fork_fault pm__fork_fault an__fork_fault cd__fork_fault ct__fork_fault), sl__fork_fault⟩) (c__fork_fault : PySem.W.codeIn K cd__fork_fault "_fork_fault" = true) (k__fork_fault : PySem.W.keepIn K (.ref f__fork_fault) = true)
  (a__is_tree : PySem.W.nsIn K mainGlobals "_is_tree" = some (some (.ref f__is_tree))) (l__is_tree : K.lookup f__is_tree = some ⟨oc__is_tree, od__is_tree, .func (PySem.W.fnOf "_is_tree" "_is_tree" (defArgs s__is_tree) (defBody s__is_tree) (defScope s__is_tree) .none kV__is_tree dc__is_tree pm__is_tree an__is_tree cd__is_tree ct__is_tree), sl__is_tree⟩) (c__is_tree : PySem.W.codeIn K cd__is_tree "_is_tree" = true) (k__is_tree : PySem.W.keepIn K (.ref f__is_tree) = true)
  (a_tree_fault : PySem.W.nsIn K mainGlobals "tree_fault" = some (some (.ref f_tree_fault))) (l_tree_fault : K.lookup f_tree_fault = some ⟨oc_tree_fault, od_tree_fault, .func (PySem.W.fnOf "tree_fault" "tree_fault" (defArgs s_tree_fault) (defBody s_tree_fault) (defScope s_tree_fault) .none kV_tree_fault dc_tree_fault pm_tree_fault an_tree_fault cd_tree_fault ct_tree_fault), sl_tree_fault⟩) (c_tree_fault : PySem.W.codeIn K cd_tree_fault "tree_fault" = true) (k_tree_fault : PySem.W.keepIn K (.ref f_tree_fault) = true)
  (a__check : PySem.W.nsIn K mainGlobals "_check" = some (some (.ref f__check))) (l__check : K.lookup f__check = some ⟨oc__check, od__check, .func (PySem.W.fnOf "_check" "_check" (defArgs s__check) (defBody s__check) (defScope s__check) .none kV__check dc__check pm__check an__check cd__check ct__check), sl__check⟩) (c__check : PySem.W.codeIn K cd__check "_check" = true) (k__check : PySem.W.keepIn K (.ref f__check) = true)
  (a__looked : PySem.W.nsIn K mainGlobals "_looked" = some (some (.ref f__looked))) (l__looked : K.lookup f__looked = some ⟨oc__looked, od__looked, .func (PySem.W.fnOf "_looked" "_looked" (defArgs s__looked) (defBody s__looked) (defScope s__looked) .none kV__looked dc__looked pm__looked an__looked cd__looked ct__looked), sl__looked⟩) (c__looked : PySem.W.codeIn K cd__looked "_looked" = true) (k__looked : PySem.W.keepIn K (.ref f__looked) = true)
  (a_found_by : PySem.W.nsIn K mainGlobals "found_by" = some (some (.ref f_found_by))) (l_found_by : K.lookup f_found_by = some ⟨oc_found_by, od_found_by, .func (PySem.W.fnOf "found_by" "found_by" (defArgs s_found_by) (defBody s_found_by) (defScope s_found_by) .none kV_found_by dc_found_by pm_found_by an_found_by cd_found_by ct_found_by), sl_found_by⟩) (c_found_by : PySem.W.codeIn K cd_found_by "found_by" = true) (k_found_by : PySem.W.keepIn K (.ref f_found_by) = true)
  (a_looks_by : PySem.W.nsIn K mainGlobals "looks_by" = some (some (.ref f_looks_by))) (l_looks_by : K.lookup f_looks_by = some ⟨oc_looks_by, od_looks_by, .func (PySem.W.fnOf "looks_by" "looks_by" (defArgs s_looks_by) (defBody s_looks_by) (defScope s_looks_by) .none kV_looks_by dc_looks_by pm_looks_by an_looks_by cd_looks_by ct_looks_by), sl_looks_by⟩) (c_looks_by : PySem.W.codeIn K cd_looks_by "looks_by" = true) (k_looks_by : PySem.W.keepIn K (.ref f_looks_by) = true)
  (a_pairs_found : PySem.W.nsIn K mainGlobals "pairs_found" = some (some (.ref f_pairs_found))) (l_pairs_found : K.lookup f_pairs_found = some ⟨oc_pairs_found, od_pairs_found, .func (PySem.W.fnOf "pairs_found" "pairs_found" (defArgs s_pairs_found) (defBody s_pairs_found) (defScope s_pairs_found) .none kV_pairs_found dc_pairs_found pm_pairs_found an_pairs_found cd_pairs_found ct_pairs_found), sl_pairs_found⟩) (c_pairs_found : PySem.W.codeIn K cd_pairs_found "pairs_found" = true) (k_pairs_found : PySem.W.keepIn K (.ref f_pairs_found) = true)
  (a__law_error : PySem.W.nsIn K mainGlobals "_law_error" = some (some (.ref f__law_error))) (l__law_error : K.lookup f__law_error = some ⟨oc__law_error, od__law_error, .func (PySem.W.fnOf "_law_error" "_law_error" (defArgs s__law_error) (defBody s__law_error) (defScope s__law_error) .none kV__law_error dc__law_error pm__law_error an__law_error cd__law_error ct__law_error), sl__law_error⟩) (c__law_error : PySem.W.codeIn K cd__law_error "_law_error" = true) (k__law_error : PySem.W.keepIn K (.ref f__law_error) = true)
  (a__law_edge : PySem.W.nsIn K mainGlobals "_law_edge" = some (some (.ref f__law_edge))) (l__law_edge : K.lookup f__law_edge = some ⟨oc__law_edge, od__law_edge, .func (PySem.W.fnOf "_law_edge" "_law_edge" (defArgs s__law_edge) (defBody s__law_edge) (defScope s__law_edge) .none kV__law_edge dc__law_edge pm__law_edge an__law_edge cd__law_edge ct__law_edge), sl__law_edge⟩) (c__law_edge : PySem.W.codeIn K cd__law_edge "_law_edge" = true) (k__law_edge : PySem.W.keepIn K (.ref f__law_edge) = true)
  (a__law_around : PySem.W.nsIn K mainGlobals "_law_around" = some (some (.ref f__law_around))) (l__law_around : K.lookup f__law_around = some ⟨oc__law_around, od__law_around, .func (PySem.W.fnOf "_law_around" "_law_around" (defArgs s__law_around) (defBody s__law_around) (defScope s__law_around) .none kV__law_around dc__law_around pm__law_around an__law_around cd__law_around ct__law_around), sl__law_around⟩) (c__law_around : PySem.W.codeIn K cd__law_around "_law_around" = true) (k__law_around : PySem.W.keepIn K (.ref f__law_around) = true)
  (a__law_meet : PySem.W.nsIn K mainGlobals "_law_meet" = some (some (.ref f__law_meet))) (l__law_meet : K.lookup f__law_meet = some ⟨oc__law_meet, od__law_meet, .func (PySem.W.fnOf "_law_meet" "_law_meet" (defArgs s__law_meet) (defBody s__law_meet) (defScope s__law_meet) .none kV__law_meet dc__law_meet pm__law_meet an__law_meet cd__law_meet ct__law_meet), sl__law_meet⟩) (c__law_meet : PySem.W.codeIn K cd__law_meet "_law_meet" = true) (k__law_meet : PySem.W.keepIn K (.ref f__law_meet) = true)
  (a_law : PySem.W.nsIn K mainGlobals "law" = some (some (.ref f_law))) (l_law : K.lookup f_law = some ⟨oc_law, od_law, .func (PySem.W.fnOf "law" "law" (defArgs s_law) (defBody s_law) (defScope s_law) .none kV_law dc_law pm_law an_law cd_law ct_law), sl_law⟩) (c_law : PySem.W.codeIn K cd_law "law" = true) (k_law : PySem.W.keepIn K (.ref f_law) = true)
  (aC_K : PySem.W.nsIn K mainGlobals "Looking" = some (some (.ref C_K)))
  (aI_K : PySem.W.findIn K (.ref C_K) "__init__" = some (some (.ref fI_K))) (iI_K : PySem.W.isFn K (.ref fI_K) = true) (lI_K : K.lookup fI_K = some ⟨ocI, odI, .func (PySem.W.fnOf "__init__" "Looking.__init__" (defArgs s_LookI) (defBody s_LookI) (defScope s_LookI) .none kVI dcI pmI anI cdI ctI), slI⟩) (cI_K : PySem.W.codeIn K cdI "Looking.__init__" = true) (kI_K : PySem.W.keepIn K (.ref fI_K) = true)
  (aL_K : PySem.W.findIn K (.ref C_K) "look" = some (some (.ref fL_K))) (iL_K : PySem.W.isFn K (.ref fL_K) = true) (lL_K : K.lookup fL_K = some ⟨ocL, odL, .func (PySem.W.fnOf "look" "Looking.look" (defArgs s_LookL) (defBody s_LookL) (defScope s_LookL) .none kVL dcL pmL anL cdL ctL), slL⟩) (cL_K : PySem.W.codeIn K cdL "Looking.look" = true) (kL_K : PySem.W.keepIn K (.ref fL_K) = true)
  (pg_K : PySem.W.plainGet K C_K Str.empty = true) (hd_K : PySem.W.hasDictIn K C_K = true) (po_K : PySem.W.plainOver K C_K = true) (sa_K : PySem.W.findIn K (.ref C_K) "__setattr__" = some (some (.builtin "object.__setattr__"))) (mk_K : PySem.W.makesIn K C_K = true) (kc_K : PySem.W.keepIn K (.ref C_K) = true) (n1_K : PySem.W.findIn K (.ref C_K) "boxes" = some none) (n2_K : PySem.W.findIn K (.ref C_K) "box" = some none) (n3_K : PySem.W.findIn K (.ref C_K) "hits" = some none) (n4_K : PySem.W.findIn K (.ref C_K) "count" = some none) : Txt K mg :=
  { n_abs := PySem.W.mg_none_of X G z_abs,
    n_all := PySem.W.mg_none_of X G z_all,
    n_any := PySem.W.mg_none_of X G z_any,
    n_bool := PySem.W.mg_none_of X G z_bool,
    n_enumerate := PySem.W.mg_none_of X G z_enumerate,
    n_int := PySem.W.mg_none_of X G z_int,
    n_isinstance := PySem.W.mg_none_of X G z_isinstance,
    n_len := PySem.W.mg_none_of X G z_len,
    n_list := PySem.W.mg_none_of X G z_list,
    n_max := PySem.W.mg_none_of X G z_max,
    n_min := PySem.W.mg_none_of X G z_min,
    n_range := PySem.W.mg_none_of X G z_range,
    n_sorted := PySem.W.mg_none_of X G z_sorted,
    n_str := PySem.W.mg_none_of X G z_str,
    n_tuple := PySem.W.mg_none_of X G z_tuple,
    t_ENTERS := t_ENTERS, c_ENTERS := PySem.W.mg_of X G k_ENTERS,
    t_FORK := t_FORK, c_FORK := PySem.W.mg_of X G k_FORK,
    t_FORM := t_FORM, c_FORM := ⟨PySem.W.mg_of X G k_FORM, fun _ => .tup (xs := [.str "form"]) (.inr ⟨_, _, _, kt_FORM, rfl, rfl, (show 1 ≤ sizeLine by decide), (.cons ⟨_, rfl⟩ .nil)⟩) (.cons (.str _) .nil)⟩,
    t_LEAF := t_LEAF, c_LEAF := PySem.W.mg_of X G k_LEAF,
    t_LEAVES := t_LEAVES, c_LEAVES := PySem.W.mg_of X G k_LEAVES,
    t_MOST_BOXES := t_MOST_BOXES, c_MOST_BOXES := PySem.W.mg_of X G k_MOST_BOXES,
    t_MOST_DEEP := t_MOST_DEEP, c_MOST_DEEP := PySem.W.mg_of X G k_MOST_DEEP,
    C_BadBox := C_BadBox, x_BadBox := ⟨PySem.W.mg_of X G xa_BadBox, xe_BadBox, xk_BadBox, xb_BadBox, xt_BadBox⟩,
    C_BadBoxes := C_BadBoxes, x_BadBoxes := ⟨PySem.W.mg_of X G xa_BadBoxes, xe_BadBoxes, xk_BadBoxes, xb_BadBoxes, xt_BadBoxes⟩,
    C_BadTree := C_BadTree, x_BadTree := ⟨PySem.W.mg_of X G xa_BadTree, xe_BadTree, xk_BadTree, xb_BadTree, xt_BadTree⟩,
    exs := fun x hx y hy c c' hc hc' => by
      simp only [List.mem_cons, List.not_mem_nil, or_false] at hx hy
      rcases hx with rfl|rfl|rfl <;> rcases hy with rfl|rfl|rfl
      · rw [PySem.W.mg_of X G xa_BadBox] at hc; rw [PySem.W.mg_of X G xa_BadBox] at hc'; cases hc; cases hc'; rw [show decide (("BadBox" : Str) = "BadBox") = true by decide]; exact PySem.W.exm_ref xb_BadBox xd_BadBox xt_BadBox s_BadBox_BadBox
      · rw [PySem.W.mg_of X G xa_BadBox] at hc; rw [PySem.W.mg_of X G xa_BadBoxes] at hc'; cases hc; cases hc'; rw [show decide (("BadBox" : Str) = "BadBoxes") = false by decide]; exact PySem.W.exm_ref xb_BadBoxes xd_BadBoxes xt_BadBoxes s_BadBox_BadBoxes
      · rw [PySem.W.mg_of X G xa_BadBox] at hc; rw [PySem.W.mg_of X G xa_BadTree] at hc'; cases hc; cases hc'; rw [show decide (("BadBox" : Str) = "BadTree") = false by decide]; exact PySem.W.exm_ref xb_BadTree xd_BadTree xt_BadTree s_BadBox_BadTree
      · rw [PySem.W.mg_of X G xa_BadBoxes] at hc; rw [PySem.W.mg_of X G xa_BadBox] at hc'; cases hc; cases hc'; rw [show decide (("BadBoxes" : Str) = "BadBox") = false by decide]; exact PySem.W.exm_ref xb_BadBox xd_BadBox xt_BadBox s_BadBoxes_BadBox
      · rw [PySem.W.mg_of X G xa_BadBoxes] at hc; rw [PySem.W.mg_of X G xa_BadBoxes] at hc'; cases hc; cases hc'; rw [show decide (("BadBoxes" : Str) = "BadBoxes") = true by decide]; exact PySem.W.exm_ref xb_BadBoxes xd_BadBoxes xt_BadBoxes s_BadBoxes_BadBoxes
      · rw [PySem.W.mg_of X G xa_BadBoxes] at hc; rw [PySem.W.mg_of X G xa_BadTree] at hc'; cases hc; cases hc'; rw [show decide (("BadBoxes" : Str) = "BadTree") = false by decide]; exact PySem.W.exm_ref xb_BadTree xd_BadTree xt_BadTree s_BadBoxes_BadTree
      · rw [PySem.W.mg_of X G xa_BadTree] at hc; rw [PySem.W.mg_of X G xa_BadBox] at hc'; cases hc; cases hc'; rw [show decide (("BadTree" : Str) = "BadBox") = false by decide]; exact PySem.W.exm_ref xb_BadBox xd_BadBox xt_BadBox s_BadTree_BadBox
      · rw [PySem.W.mg_of X G xa_BadTree] at hc; rw [PySem.W.mg_of X G xa_BadBoxes] at hc'; cases hc; cases hc'; rw [show decide (("BadTree" : Str) = "BadBoxes") = false by decide]; exact PySem.W.exm_ref xb_BadBoxes xd_BadBoxes xt_BadBoxes s_BadTree_BadBoxes
      · rw [PySem.W.mg_of X G xa_BadTree] at hc; rw [PySem.W.mg_of X G xa_BadTree] at hc'; cases hc; cases hc'; rw [show decide (("BadTree" : Str) = "BadTree") = true by decide]; exact PySem.W.exm_ref xb_BadTree xd_BadTree xt_BadTree s_BadTree_BadTree
,
    C_TouchError := C_TouchError, gx_TouchError := PySem.W.mg_of X G xa_TouchError,
    ec_BadBox := ⟨eg_BadBox, ek_BadBox, xb_BadBox, xd_BadBox, ea_BadBox, en_BadBox, et_BadBox, em_BadBox⟩,
    ec_BadBoxes := ⟨eg_BadBoxes, ek_BadBoxes, xb_BadBoxes, xd_BadBoxes, ea_BadBoxes, en_BadBoxes, et_BadBoxes, em_BadBoxes⟩,
    ec_BadTree := ⟨eg_BadTree, ek_BadTree, xb_BadTree, xd_BadTree, ea_BadTree, en_BadTree, et_BadTree, em_BadTree⟩,
    hx_BadBox__BadBox_BadBoxes := hx_BadBox__BadBox_BadBoxes,
    hx_BadBoxes__BadBox_BadBoxes := hx_BadBoxes__BadBox_BadBoxes,
    hx_BadTree__BadBox_BadBoxes := hx_BadTree__BadBox_BadBoxes,
    hx_BadTree__TouchError := hx_BadTree__TouchError,
    ki_BadBox_BadBox := ki_BadBox_BadBox,
    ki_BadBoxes_BadBox := ki_BadBoxes_BadBox,
    ki_BadTree_BadTree := ki_BadTree_BadTree,
    f__law_draws := f__law_draws, d__law_draws := _, F__law_draws := fun_mk (st := s__law_draws) l__law_draws c__law_draws k__law_draws, g__law_draws := PySem.W.mg_of X G a__law_draws, b__law_draws := (fun_mk (st := s__law_draws) l__law_draws c__law_draws k__law_draws).binds (ps := ["script", "many"]) fun _ _ _ _ _ _ us hl => match us, hl with | [_, _], _ => rfl,
    f__law_frac := f__law_frac, d__law_frac := _, F__law_frac := fun_mk (st := s__law_frac) l__law_frac c__law_frac k__law_frac, g__law_frac := PySem.W.mg_of X G a__law_frac, b__law_frac := (fun_mk (st := s__law_frac) l__law_frac c__law_frac k__law_frac).binds (ps := ["above", "below"]) fun _ _ _ _ _ _ us hl => match us, hl with | [_, _], _ => rfl,
    f__law_plus := f__law_plus, d__law_plus := _, F__law_plus := fun_mk (st := s__law_plus) l__law_plus c__law_plus k__law_plus, g__law_plus := PySem.W.mg_of X G a__law_plus, b__law_plus := (fun_mk (st := s__law_plus) l__law_plus c__law_plus k__law_plus).binds (ps := ["one", "other"]) fun _ _ _ _ _ _ us hl => match us, hl with | [_, _], _ => rfl,
    f__law_boxes := f__law_boxes, d__law_boxes := _, F__law_boxes := fun_mk (st := s__law_boxes) l__law_boxes c__law_boxes k__law_boxes, g__law_boxes := PySem.W.mg_of X G a__law_boxes, b__law_boxes := (fun_mk (st := s__law_boxes) l__law_boxes c__law_boxes k__law_boxes).binds (ps := ["draws", "many"]) fun _ _ _ _ _ _ us hl => match us, hl with | [_, _], _ => rfl,
    f_order := f_order, d_order := _, F_order := fun_mk (st := s_order) l_order c_order k_order, g_order := PySem.W.mg_of X G a_order, b_order := (fun_mk (st := s_order) l_order c_order k_order).binds (ps := ["one", "other"]) fun _ _ _ _ _ _ us hl => match us, hl with | [_, _], _ => rfl,
    f_is_integer := f_is_integer, d_is_integer := _, F_is_integer := fun_mk (st := s_is_integer) l_is_integer c_is_integer k_is_integer, g_is_integer := PySem.W.mg_of X G a_is_integer, b_is_integer := (fun_mk (st := s_is_integer) l_is_integer c_is_integer k_is_integer).binds (ps := ["value"]) fun _ _ _ _ _ _ us hl => match us, hl with | [_], _ => rfl,
    f_divisor := f_divisor, d_divisor := _, F_divisor := fun_mk (st := s_divisor) l_divisor c_divisor k_divisor, g_divisor := PySem.W.mg_of X G a_divisor, b_divisor := (fun_mk (st := s_divisor) l_divisor c_divisor k_divisor).binds (ps := ["one", "other"]) fun _ _ _ _ _ _ us hl => match us, hl with | [_, _], _ => rfl,
    f_is_number := f_is_number, d_is_number := _, F_is_number := fun_mk (st := s_is_number) l_is_number c_is_number k_is_number, g_is_number := PySem.W.mg_of X G a_is_number, b_is_number := (fun_mk (st := s_is_number) l_is_number c_is_number k_is_number).binds (ps := ["value"]) fun _ _ _ _ _ _ us hl => match us, hl with | [_], _ => rfl,
    f_is_span := f_is_span, d_is_span := _, F_is_span := fun_mk (st := s_is_span) l_is_span c_is_span k_is_span, g_is_span := PySem.W.mg_of X G a_is_span, b_is_span := (fun_mk (st := s_is_span) l_is_span c_is_span k_is_span).binds (ps := ["value"]) fun _ _ _ _ _ _ us hl => match us, hl with | [_], _ => rfl,
    f_is_box := f_is_box, d_is_box := _, F_is_box := fun_mk (st := s_is_box) l_is_box c_is_box k_is_box, g_is_box := PySem.W.mg_of X G a_is_box, b_is_box := (fun_mk (st := s_is_box) l_is_box c_is_box k_is_box).binds (ps := ["value"]) fun _ _ _ _ _ _ us hl => match us, hl with | [_], _ => rfl,
    f_check_boxes := f_check_boxes, d_check_boxes := _, F_check_boxes := fun_mk (st := s_check_boxes) l_check_boxes c_check_boxes k_check_boxes, g_check_boxes := PySem.W.mg_of X G a_check_boxes, b_check_boxes := (fun_mk (st := s_check_boxes) l_check_boxes c_check_boxes k_check_boxes).binds (ps := ["boxes"]) fun _ _ _ _ _ _ us hl => match us, hl with | [_], _ => rfl,
    f_least_of := f_least_of, d_least_of := _, F_least_of := fun_mk (st := s_least_of) l_least_of c_least_of k_least_of, g_least_of := PySem.W.mg_of X G a_least_of, b_least_of := (fun_mk (st := s_least_of) l_least_of c_least_of k_least_of).binds (ps := ["numbers"]) fun _ _ _ _ _ _ us hl => match us, hl with | [_], _ => rfl,
    f_greatest_of := f_greatest_of, d_greatest_of := _, F_greatest_of := fun_mk (st := s_greatest_of) l_greatest_of c_greatest_of k_greatest_of, g_greatest_of := PySem.W.mg_of X G a_greatest_of, b_greatest_of := (fun_mk (st := s_greatest_of) l_greatest_of c_greatest_of k_greatest_of).binds (ps := ["numbers"]) fun _ _ _ _ _ _ us hl => match us, hl with | [_], _ => rfl,
    f__span_around := f__span_around, d__span_around := _, F__span_around := fun_mk (st := s__span_around) l__span_around c__span_around k__span_around, g__span_around := PySem.W.mg_of X G a__span_around, b__span_around := (fun_mk (st := s__span_around) l__span_around c__span_around k__span_around).binds (ps := ["spans"]) fun _ _ _ _ _ _ us hl => match us, hl with | [_], _ => rfl,
    f_around_by := f_around_by, d_around_by := _, F_around_by := fun_mk (st := s_around_by) l_around_by c_around_by k_around_by, g_around_by := PySem.W.mg_of X G a_around_by, b_around_by := (fun_mk (st := s_around_by) l_around_by c_around_by k_around_by).binds (ps := ["boxes"]) fun _ _ _ _ _ _ us hl => match us, hl with | [_], _ => rfl,
    f__is_ahead := f__is_ahead, d__is_ahead := _, F__is_ahead := fun_mk (st := s__is_ahead) l__is_ahead c__is_ahead k__is_ahead, g__is_ahead := PySem.W.mg_of X G a__is_ahead, b__is_ahead := (fun_mk (st := s__is_ahead) l__is_ahead c__is_ahead k__is_ahead).binds (ps := ["row", "other"]) fun _ _ _ _ _ _ us hl => match us, hl with | [_, _], _ => rfl,
    f_in_order := f_in_order, d_in_order := _, F_in_order := fun_mk (st := s_in_order) l_in_order c_in_order k_in_order, g_in_order := PySem.W.mg_of X G a_in_order, b_in_order := (fun_mk (st := s_in_order) l_in_order c_in_order k_in_order).binds (ps := ["rows"]) fun _ _ _ _ _ _ us hl => match us, hl with | [_], _ => rfl,
    f_made := f_made, d_made := _, F_made := fun_mk (st := s_made) l_made c_made k_made, g_made := PySem.W.mg_of X G a_made, b_made := (fun_mk (st := s_made) l_made c_made k_made).binds (ps := ["above", "below"]) fun _ _ _ _ _ _ us hl => match us, hl with | [_, _], _ => rfl,
    f_difference := f_difference, d_difference := _, F_difference := fun_mk (st := s_difference) l_difference c_difference k_difference, g_difference := PySem.W.mg_of X G a_difference, b_difference := (fun_mk (st := s_difference) l_difference c_difference k_difference).binds (ps := ["one", "other"]) fun _ _ _ _ _ _ us hl => match us, hl with | [_, _], _ => rfl,
    f_sum_of := f_sum_of, d_sum_of := _, F_sum_of := fun_mk (st := s_sum_of) l_sum_of c_sum_of k_sum_of, g_sum_of := PySem.W.mg_of X G a_sum_of, b_sum_of := (fun_mk (st := s_sum_of) l_sum_of c_sum_of k_sum_of).binds (ps := ["one", "other"]) fun _ _ _ _ _ _ us hl => match us, hl with | [_, _], _ => rfl,
    f__made := f__made, d__made := _, F__made := fun_mk (st := s__made) l__made c__made k__made, g__made := PySem.W.mg_of X G a__made, b__made := (fun_mk (st := s__made) l__made c__made k__made).binds (ps := ["boxes", "numbers"]) fun _ _ _ _ _ _ us hl => match us, hl with | [_, _], _ => rfl,
    f_tree_of := f_tree_of, d_tree_of := _, F_tree_of := fun_mk (st := s_tree_of) l_tree_of c_tree_of k_tree_of, g_tree_of := PySem.W.mg_of X G a_tree_of, b_tree_of := (fun_mk (st := s_tree_of) l_tree_of c_tree_of k_tree_of).binds (ps := ["boxes"]) fun _ _ _ _ _ _ us hl => match us, hl with | [_], _ => rfl,
    f__law_is_number := f__law_is_number, d__law_is_number := _, F__law_is_number := fun_mk (st := s__law_is_number) l__law_is_number c__law_is_number k__law_is_number, g__law_is_number := PySem.W.mg_of X G a__law_is_number, b__law_is_number := (fun_mk (st := s__law_is_number) l__law_is_number c__law_is_number k__law_is_number).binds (ps := ["value"]) fun _ _ _ _ _ _ us hl => match us, hl with | [_], _ => rfl,
    f__law_less := f__law_less, d__law_less := _, F__law_less := fun_mk (st := s__law_less) l__law_less c__law_less k__law_less, g__law_less := PySem.W.mg_of X G a__law_less, b__law_less := (fun_mk (st := s__law_less) l__law_less c__law_less k__law_less).binds (ps := ["one", "other"]) fun _ _ _ _ _ _ us hl => match us, hl with | [_, _], _ => rfl,
    f__law_is_box := f__law_is_box, d__law_is_box := _, F__law_is_box := fun_mk (st := s__law_is_box) l__law_is_box c__law_is_box k__law_is_box, g__law_is_box := PySem.W.mg_of X G a__law_is_box, b__law_is_box := (fun_mk (st := s__law_is_box) l__law_is_box c__law_is_box k__law_is_box).binds (ps := ["value"]) fun _ _ _ _ _ _ us hl => match us, hl with | [_], _ => rfl,
    f_check_boxes_all := f_check_boxes_all, d_check_boxes_all := _, F_check_boxes_all := fun_mk (st := s_check_boxes_all) l_check_boxes_all c_check_boxes_all k_check_boxes_all, g_check_boxes_all := PySem.W.mg_of X G a_check_boxes_all, b_check_boxes_all := (fun_mk (st := s_check_boxes_all) l_check_boxes_all c_check_boxes_all k_check_boxes_all).binds (ps := ["values"]) fun _ _ _ _ _ _ us hl => match us, hl with | [_], _ => rfl,
    f_spans_meet := f_spans_meet, d_spans_meet := _, F_spans_meet := fun_mk (st := s_spans_meet) l_spans_meet c_spans_meet k_spans_meet, g_spans_meet := PySem.W.mg_of X G a_spans_meet, b_spans_meet := (fun_mk (st := s_spans_meet) l_spans_meet c_spans_meet k_spans_meet).binds (ps := ["one", "other"]) fun _ _ _ _ _ _ us hl => match us, hl with | [_, _], _ => rfl,
    f_boxes_meet_by := f_boxes_meet_by, d_boxes_meet_by := _, F_boxes_meet_by := fun_mk (st := s_boxes_meet_by) l_boxes_meet_by c_boxes_meet_by k_boxes_meet_by, g_boxes_meet_by := PySem.W.mg_of X G a_boxes_meet_by, b_boxes_meet_by := (fun_mk (st := s_boxes_meet_by) l_boxes_meet_by c_boxes_meet_by k_boxes_meet_by).binds (ps := ["one", "other"]) fun _ _ _ _ _ _ us hl => match us, hl with | [_, _], _ => rfl,
    f_boxes_meet := f_boxes_meet, d_boxes_meet := _, F_boxes_meet := fun_mk (st := s_boxes_meet) l_boxes_meet c_boxes_meet k_boxes_meet, g_boxes_meet := PySem.W.mg_of X G a_boxes_meet, b_boxes_meet := (fun_mk (st := s_boxes_meet) l_boxes_meet c_boxes_meet k_boxes_meet).binds (ps := ["one", "other"]) fun _ _ _ _ _ _ us hl => match us, hl with | [_, _], _ => rfl,
    f_box_around := f_box_around, d_box_around := _, F_box_around := fun_mk (st := s_box_around) l_box_around c_box_around k_box_around, g_box_around := PySem.W.mg_of X G a_box_around, b_box_around := (fun_mk (st := s_box_around) l_box_around c_box_around k_box_around).binds (ps := ["boxes"]) fun _ _ _ _ _ _ us hl => match us, hl with | [_], _ => rfl,
    f_swept_by := f_swept_by, d_swept_by := _, F_swept_by := fun_mk (st := s_swept_by) l_swept_by c_swept_by k_swept_by, g_swept_by := PySem.W.mg_of X G a_swept_by, b_swept_by := (fun_mk (st := s_swept_by) l_swept_by c_swept_by k_swept_by).binds (ps := ["boxes"]) fun _ _ _ _ _ _ us hl => match us, hl with | [_], _ => rfl,
    f_sweep_row := f_sweep_row, d_sweep_row := _, F_sweep_row := fun_mk (st := s_sweep_row) l_sweep_row c_sweep_row k_sweep_row, g_sweep_row := PySem.W.mg_of X G a_sweep_row, b_sweep_row := (fun_mk (st := s_sweep_row) l_sweep_row c_sweep_row k_sweep_row).binds (ps := ["boxes"]) fun _ _ _ _ _ _ us hl => match us, hl with | [_], _ => rfl,
    f_sweep_pairs := f_sweep_pairs, d_sweep_pairs := _, F_sweep_pairs := fun_mk (st := s_sweep_pairs) l_sweep_pairs c_sweep_pairs k_sweep_pairs, g_sweep_pairs := PySem.W.mg_of X G a_sweep_pairs, b_sweep_pairs := (fun_mk (st := s_sweep_pairs) l_sweep_pairs c_sweep_pairs k_sweep_pairs).binds (ps := ["boxes"]) fun _ _ _ _ _ _ us hl => match us, hl with | [_], _ => rfl,
    f__is_within := f__is_within, d__is_within := _, F__is_within := fun_mk (st := s__is_within) l__is_within c__is_within k__is_within, g__is_within := PySem.W.mg_of X G a__is_within, b__is_within := (fun_mk (st := s__is_within) l__is_within c__is_within k__is_within).binds (ps := ["box", "other"]) fun _ _ _ _ _ _ us hl => match us, hl with | [_, _], _ => rfl,
    f_numbers_in := f_numbers_in, d_numbers_in := _, F_numbers_in := fun_mk (st := s_numbers_in) l_numbers_in c_numbers_in k_numbers_in, g_numbers_in := PySem.W.mg_of X G a_numbers_in, b_numbers_in := (fun_mk (st := s_numbers_in) l_numbers_in c_numbers_in k_numbers_in).binds (ps := ["tree"]) fun _ _ _ _ _ _ us hl => match us, hl with | [_], _ => rfl,
    f__fork_fault := f__fork_fault, d__fork_fault := _, F__fork_fault := fun_mk (st := s__fork_fault) l__fork_fault c__fork_fault k__fork_fault, g__fork_fault := PySem.W.mg_of X G a__fork_fault, b__fork_fault := (fun_mk (st := s__fork_fault) l__fork_fault c__fork_fault k__fork_fault).binds (ps := ["boxes", "tree", "place"]) fun _ _ _ _ _ _ us hl => match us, hl with | [_, _, _], _ => rfl,
    f__is_tree := f__is_tree, d__is_tree := _, F__is_tree := fun_mk (st := s__is_tree) l__is_tree c__is_tree k__is_tree, g__is_tree := PySem.W.mg_of X G a__is_tree, b__is_tree := (fun_mk (st := s__is_tree) l__is_tree c__is_tree k__is_tree).binds (ps := ["value"]) fun _ _ _ _ _ _ us hl => match us, hl with | [_], _ => rfl,
    f_tree_fault := f_tree_fault, d_tree_fault := _, F_tree_fault := fun_mk (st := s_tree_fault) l_tree_fault c_tree_fault k_tree_fault, g_tree_fault := PySem.W.mg_of X G a_tree_fault, b_tree_fault := (fun_mk (st := s_tree_fault) l_tree_fault c_tree_fault k_tree_fault).binds (ps := ["boxes", "value"]) fun _ _ _ _ _ _ us hl => match us, hl with | [_, _], _ => rfl,
    f__check := f__check, d__check := _, F__check := fun_mk (st := s__check) l__check c__check k__check, g__check := PySem.W.mg_of X G a__check, b__check := (fun_mk (st := s__check) l__check c__check k__check).binds (ps := ["boxes", "tree"]) fun _ _ _ _ _ _ us hl => match us, hl with | [_, _], _ => rfl,
    f__looked := f__looked, d__looked := _, F__looked := fun_mk (st := s__looked) l__looked c__looked k__looked, g__looked := PySem.W.mg_of X G a__looked, b__looked := (fun_mk (st := s__looked) l__looked c__looked k__looked).binds (ps := ["boxes", "tree", "box"]) fun _ _ _ _ _ _ us hl => match us, hl with | [_, _, _], _ => rfl,
    f_found_by := f_found_by, d_found_by := _, F_found_by := fun_mk (st := s_found_by) l_found_by c_found_by k_found_by, g_found_by := PySem.W.mg_of X G a_found_by, b_found_by := (fun_mk (st := s_found_by) l_found_by c_found_by k_found_by).binds (ps := ["boxes", "tree", "box"]) fun _ _ _ _ _ _ us hl => match us, hl with | [_, _, _], _ => rfl,
    f_looks_by := f_looks_by, d_looks_by := _, F_looks_by := fun_mk (st := s_looks_by) l_looks_by c_looks_by k_looks_by, g_looks_by := PySem.W.mg_of X G a_looks_by, b_looks_by := (fun_mk (st := s_looks_by) l_looks_by c_looks_by k_looks_by).binds (ps := ["boxes", "tree", "box"]) fun _ _ _ _ _ _ us hl => match us, hl with | [_, _, _], _ => rfl,
    f_pairs_found := f_pairs_found, d_pairs_found := _, F_pairs_found := fun_mk (st := s_pairs_found) l_pairs_found c_pairs_found k_pairs_found, g_pairs_found := PySem.W.mg_of X G a_pairs_found, b_pairs_found := (fun_mk (st := s_pairs_found) l_pairs_found c_pairs_found k_pairs_found).binds (ps := ["boxes", "tree"]) fun _ _ _ _ _ _ us hl => match us, hl with | [_, _], _ => rfl,
    f__law_error := f__law_error, d__law_error := _, F__law_error := fun_mk (st := s__law_error) l__law_error c__law_error k__law_error, g__law_error := PySem.W.mg_of X G a__law_error, b__law_error := (fun_mk (st := s__law_error) l__law_error c__law_error k__law_error).binds (ps := ["way", "one", "other", "third"]) fun _ _ _ _ _ _ us hl => match us, hl with | [_, _, _, _], _ => rfl,
    f__law_edge := f__law_edge, d__law_edge := _, F__law_edge := fun_mk (st := s__law_edge) l__law_edge c__law_edge k__law_edge, g__law_edge := PySem.W.mg_of X G a__law_edge, b__law_edge := (fun_mk (st := s__law_edge) l__law_edge c__law_edge k__law_edge).binds (ps := ["rows", "is_most"]) fun _ _ _ _ _ _ us hl => match us, hl with | [_, _], _ => rfl,
    f__law_around := f__law_around, d__law_around := _, F__law_around := fun_mk (st := s__law_around) l__law_around c__law_around k__law_around, g__law_around := PySem.W.mg_of X G a__law_around, b__law_around := (fun_mk (st := s__law_around) l__law_around c__law_around k__law_around).binds (ps := ["boxes"]) fun _ _ _ _ _ _ us hl => match us, hl with | [_], _ => rfl,
    f__law_meet := f__law_meet, d__law_meet := _, F__law_meet := fun_mk (st := s__law_meet) l__law_meet c__law_meet k__law_meet, g__law_meet := PySem.W.mg_of X G a__law_meet, b__law_meet := (fun_mk (st := s__law_meet) l__law_meet c__law_meet k__law_meet).binds (ps := ["one", "other"]) fun _ _ _ _ _ _ us hl => match us, hl with | [_, _], _ => rfl,
    f_law := f_law, d_law := _, F_law := fun_mk (st := s_law) l_law c_law k_law, g_law := PySem.W.mg_of X G a_law, b_law := (fun_mk (st := s_law) l_law c_law k_law).binds (ps := ["script"]) fun _ _ _ _ _ _ us hl => match us, hl with | [_], _ => rfl,
    C_Looking := C_K, fI_Looking := fI_K, fL_Looking := fL_K, dI_Looking := _, dL_Looking := _, FI_Looking := fun_mk (st := s_LookI) lI_K cI_K kI_K, FL_Looking := fun_mk (st := s_LookL) lL_K cL_K kL_K, cc_Looking := ⟨⟨pg_K, hd_K, po_K, sa_K⟩, ⟨mk_K, aI_K, iI_K, kc_K⟩, ⟨aL_K, iL_K, kL_K⟩, n1_K, n2_K, n3_K, n4_K⟩, gC_Looking := PySem.W.mg_of X G aC_K, bI_Looking := (fun_mk (st := s_LookI) lI_K cI_K kI_K).binds (ps := ["self", "boxes", "box"]) fun _ _ _ _ _ _ us hl => match us, hl with | [_, _, _], _ => rfl, bL_Looking := (fun_mk (st := s_LookL) lL_K cL_K kL_K).binds (ps := ["self", "tree"]) fun _ _ _ _ _ _ us hl => match us, hl with | [_, _], _ => rfl }
theorem law_mk {K : PySem.W.Frag} {mg : Str → Option Value} {fa : Addr} {w : World} (T : Txt K mg) (hfa : mg "law" = some (.ref fa)) : ∃ fd : FuncData, (∀ (s : Shared) (v : Value), BindsTo s fd ⟨[v], []⟩ [("script", v)]) ∧ ∀ base : Heap, K.In base → base.Ns mainGlobals mg → FnOk PySem.Challenge.rw_touchtrue_k19_boxes_told.prog w K mg base (L2.CX PySem.Challenge.rw_touchtrue_k19_boxes_told.prog w) 75 fa fd ["script"] (spLaw K) := by
  have e := hfa.symm.trans T.g_law
  cases e
  refine ⟨T.d_law, fun s v => by obtain ⟨_, _, _, _, _, _, _, _, _, e, _, _⟩ := T.F_law.ex; rw [e]; exact .of_eq rfl, fun base _ _ => (ok_law T).imp fun vs H Q E ⟨a, ns, e1, hl, hs, q⟩ => ?_⟩
  subst e1
  refine ⟨H, [scrD ns], .refl _, .one (.scr hs), rfl, ?_⟩
  rw [Mt.law_true ns hl]
  exact fun v G' H' _ r => by cases r; exact q H'
end Wk
open PySem PySem.W PyProof.Rows
theorem PySem.Challenge.cw_touchtrue_k19_boxes_told_holds : PySem.Challenge.rw_touchtrue_k19_boxes_told.Holds := by
  w_on; o_law; k_head; (case hw => w_witness2)
  k_fill
  refine L2.walk_of (l := PySem.Challenge.rw_touchtrue_k19_boxes_told) (n := 63) (k := 75) (x := "script") (CX := fun w => L2.CX PySem.Challenge.rw_touchtrue_k19_boxes_told.prog w) (sp := fun w => Wk.spLaw _) rfl (by decide) rfl ⟨rfl, by decide, by decide⟩ (fun w h Y => PySem.W.kIn_of Y) ?F (fun _ _ a ns hl _ hS => ⟨a, ns, rfl, hl, hS, fun _ => rfl⟩) (fun _ _ _ _ _ h => by obtain ⟨_, _, _, _, _, _, _, _, _, _, _, _, z⟩ := h; exact z.elim)
  case F =>
    intro w mg fa h KX G hmg
    refine' Wk.law_mk (Wk.mkTxt KX G ?z_abs ?z_all ?z_any ?z_bool ?z_enumerate ?z_int ?z_isinstance ?z_len ?z_list ?z_max ?z_min ?z_range ?z_sorted ?z_str ?z_tuple ?k_ENTERS ?k_FORK ?k_FORM ?kt_FORM ?k_LEAF ?k_LEAVES ?k_MOST_BOXES ?k_MOST_DEEP ?xa_BadBox ?xe_BadBox ?xk_BadBox ?xb_BadBox ?xt_BadBox ?xd_BadBox ?xa_BadBoxes ?xe_BadBoxes ?xk_BadBoxes ?xb_BadBoxes ?xt_BadBoxes ?xd_BadBoxes ?xa_BadTree ?xe_BadTree ?xk_BadTree ?xb_BadTree ?xt_BadTree ?xd_BadTree ?s_BadBox_BadBox ?s_BadBox_BadBoxes ?s_BadBox_BadTree ?s_BadBoxes_BadBox ?s_BadBoxes_BadBoxes ?s_BadBoxes_BadTree ?s_BadTree_BadBox ?s_BadTree_BadBoxes ?s_BadTree_BadTree ?xa_TouchError ?eg_BadBox ?ek_BadBox ?ea_BadBox ?en_BadBox ?et_BadBox ?em_BadBox ?eg_BadBoxes ?ek_BadBoxes ?ea_BadBoxes ?en_BadBoxes ?et_BadBoxes ?em_BadBoxes ?eg_BadTree ?ek_BadTree ?ea_BadTree ?en_BadTree ?et_BadTree ?em_BadTree ?hx_BadBox__BadBox_BadBoxes ?hx_BadBoxes__BadBox_BadBoxes ?hx_BadTree__BadBox_BadBoxes ?hx_BadTree__TouchError ?ki_BadBox_BadBox ?ki_BadBoxes_BadBox ?ki_BadTree_BadTree ?a__law_draws ?l__law_draws ?c__law_draws ?k__law_draws ?a__law_frac ?l__law_frac ?c__law_frac ?k__law_frac ?a__law_plus ?l__law_plus ?c__law_plus ?k__law_plus ?a__law_boxes ?l__law_boxes ?c__law_boxes ?k__law_boxes ?a_order ?l_order ?c_order ?k_order ?a_is_integer ?l_is_integer ?c_is_integer ?k_is_integer ?a_divisor ?l_divisor ?c_divisor ?k_divisor ?a_is_number ?l_is_number ?c_is_number ?k_is_number ?a_is_span ?l_is_span ?c_is_span ?k_is_span ?a_is_box ?l_is_box ?c_is_box ?k_is_box ?a_check_boxes ?l_check_boxes ?c_check_boxes ?k_check_boxes ?a_least_of ?l_least_of ?c_least_of ?k_least_of ?a_greatest_of ?l_greatest_of ?c_greatest_of ?k_greatest_of ?a__span_around ?l__span_around ?c__span_around ?k__span_around ?a_around_by ?l_around_by ?c_around_by ?k_around_by ?a__is_ahead ?l__is_ahead ?c__is_ahead ?k__is_ahead ?a_in_order ?l_in_order ?c_in_order ?k_in_order ?a_made ?l_made ?c_made ?k_made ?a_difference ?l_difference ?c_difference ?k_difference ?a_sum_of ?l_sum_of ?c_sum_of ?k_sum_of ?a__made ?l__made ?c__made ?k__made ?a_tree_of ?l_tree_of ?c_tree_of ?k_tree_of ?a__law_is_number ?l__law_is_number ?c__law_is_number ?k__law_is_number ?a__law_less ?l__law_less ?c__law_less ?k__law_less ?a__law_is_box ?l__law_is_box ?c__law_is_box ?k__law_is_box ?a_check_boxes_all ?l_check_boxes_all ?c_check_boxes_all ?k_check_boxes_all ?a_spans_meet ?l_spans_meet ?c_spans_meet ?k_spans_meet ?a_boxes_meet_by ?l_boxes_meet_by ?c_boxes_meet_by ?k_boxes_meet_by ?a_boxes_meet ?l_boxes_meet ?c_boxes_meet ?k_boxes_meet ?a_box_around ?l_box_around ?c_box_around ?k_box_around ?a_swept_by ?l_swept_by ?c_swept_by ?k_swept_by ?a_sweep_row ?l_sweep_row ?c_sweep_row ?k_sweep_row ?a_sweep_pairs ?l_sweep_pairs ?c_sweep_pairs ?k_sweep_pairs ?a__is_within ?l__is_within ?c__is_within ?k__is_within ?a_numbers_in ?l_numbers_in ?c_numbers_in ?k_numbers_in ?a__fork_fault ?l__fork_fault ?c__fork_fault ?k__fork_fault ?a__is_tree ?l__is_tree ?c__is_tree ?k__is_tree ?a_tree_fault ?l_tree_fault ?c_tree_fault ?k_tree_fault ?a__check ?l__check ?c__check ?k__check ?a__looked ?l__looked ?c__looked ?k__looked ?a_found_by ?l_found_by ?c_found_by ?k_found_by ?a_looks_by ?l_looks_by ?c_looks_by ?k_looks_by ?a_pairs_found ?l_pairs_found ?c_pairs_found ?k_pairs_found ?a__law_error ?l__law_error ?c__law_error ?k__law_error ?a__law_edge ?l__law_edge ?c__law_edge ?k__law_edge ?a__law_around ?l__law_around ?c__law_around ?k__law_around ?a__law_meet ?l__law_meet ?c__law_meet ?k__law_meet ?a_law ?l_law ?c_law ?k_law ?aC_K ?aI_K ?iI_K ?lI_K ?cI_K ?kI_K ?aL_K ?iL_K ?lL_K ?cL_K ?kL_K ?pg_K ?hd_K ?po_K ?sa_K ?mk_K ?kc_K ?n1_K ?n2_K ?n3_K ?n4_K) hmg
    (case z_abs => k_is); (case z_all => k_is); (case z_any => k_is); (case z_bool => k_is); (case z_enumerate => k_is); (case z_int => k_is); (case z_isinstance => k_is); (case z_len => k_is); (case z_list => k_is); (case z_max => k_is); (case z_min => k_is); (case z_range => k_is); (case z_sorted => k_is); (case z_str => k_is); (case z_tuple => k_is); (case k_ENTERS => k_is); (case k_FORK => k_is); (case k_FORM => k_is); (case kt_FORM => k_is); (case k_LEAF => k_is); (case k_LEAVES => k_is); (case k_MOST_BOXES => k_is); (case k_MOST_DEEP => k_is); (case xa_BadBox => k_is); (case xe_BadBox => k_exc); (case xk_BadBox => k_is); (case xb_BadBox => k_is); (case xt_BadBox => k_is); (case xd_BadBox => k_is); (case xa_BadBoxes => k_is); (case xe_BadBoxes => k_exc); (case xk_BadBoxes => k_is); (case xb_BadBoxes => k_is); (case xt_BadBoxes => k_is); (case xd_BadBoxes => k_is); (case xa_BadTree => k_is); (case xe_BadTree => k_exc); (case xk_BadTree => k_is); (case xb_BadTree => k_is); (case xt_BadTree => k_is); (case xd_BadTree => k_is); (case s_BadBox_BadBox => k_is); (case s_BadBox_BadBoxes => k_is); (case s_BadBox_BadTree => k_is); (case s_BadBoxes_BadBox => k_is); (case s_BadBoxes_BadBoxes => k_is); (case s_BadBoxes_BadTree => k_is); (case s_BadTree_BadBox => k_is); (case s_BadTree_BadBoxes => k_is); (case s_BadTree_BadTree => k_is); (case xa_TouchError => k_is); (case eg_BadBox => k_is); (case ek_BadBox => k_is); (case ea_BadBox => k_is); (case en_BadBox => k_is); (case et_BadBox => k_is); (case em_BadBox => k_is); (case eg_BadBoxes => k_is); (case ek_BadBoxes => k_is); (case ea_BadBoxes => k_is); (case en_BadBoxes => k_is); (case et_BadBoxes => k_is); (case em_BadBoxes => k_is); (case eg_BadTree => k_is); (case ek_BadTree => k_is); (case ea_BadTree => k_is); (case en_BadTree => k_is); (case et_BadTree => k_is); (case em_BadTree => k_is); (case hx_BadBox__BadBox_BadBoxes => kts_exm); (case hx_BadBoxes__BadBox_BadBoxes => kts_exm); (case hx_BadTree__BadBox_BadBoxes => kts_exm); (case hx_BadTree__TouchError => kts_exm); (case ki_BadBox_BadBox => kit_is); (case ki_BadBoxes_BadBox => kit_is); (case ki_BadTree_BadTree => kit_is); (case a__law_draws => k_is); (case l__law_draws => k_is); (case c__law_draws => k_is); (case k__law_draws => k_is); (case a__law_frac => k_is); (case l__law_frac => k_is); (case c__law_frac => k_is); (case k__law_frac => k_is); (case a__law_plus => k_is); (case l__law_plus => k_is); (case c__law_plus => k_is); (case k__law_plus => k_is); (case a__law_boxes => k_is); (case l__law_boxes => k_is); (case c__law_boxes => k_is); (case k__law_boxes => k_is); (case a_order => k_is); (case l_order => k_is); (case c_order => k_is); (case k_order => k_is); (case a_is_integer => k_is); (case l_is_integer => k_is); (case c_is_integer => k_is); (case k_is_integer => k_is); (case a_divisor => k_is); (case l_divisor => k_is); (case c_divisor => k_is); (case k_divisor => k_is); (case a_is_number => k_is); (case l_is_number => k_is); (case c_is_number => k_is); (case k_is_number => k_is); (case a_is_span => k_is); (case l_is_span => k_is); (case c_is_span => k_is); (case k_is_span => k_is); (case a_is_box => k_is); (case l_is_box => k_is); (case c_is_box => k_is); (case k_is_box => k_is); (case a_check_boxes => k_is); (case l_check_boxes => k_is); (case c_check_boxes => k_is); (case k_check_boxes => k_is); (case a_least_of => k_is); (case l_least_of => k_is); (case c_least_of => k_is); (case k_least_of => k_is); (case a_greatest_of => k_is); (case l_greatest_of => k_is); (case c_greatest_of => k_is); (case k_greatest_of => k_is); (case a__span_around => k_is); (case l__span_around => k_is); (case c__span_around => k_is); (case k__span_around => k_is); (case a_around_by => k_is); (case l_around_by => k_is); (case c_around_by => k_is); (case k_around_by => k_is); (case a__is_ahead => k_is); (case l__is_ahead => k_is); (case c__is_ahead => k_is); (case k__is_ahead => k_is); (case a_in_order => k_is); (case l_in_order => k_is); (case c_in_order => k_is); (case k_in_order => k_is); (case a_made => k_is); (case l_made => k_is); (case c_made => k_is); (case k_made => k_is); (case a_difference => k_is); (case l_difference => k_is); (case c_difference => k_is); (case k_difference => k_is); (case a_sum_of => k_is); (case l_sum_of => k_is); (case c_sum_of => k_is); (case k_sum_of => k_is); (case a__made => k_is); (case l__made => k_is); (case c__made => k_is); (case k__made => k_is); (case a_tree_of => k_is); (case l_tree_of => k_is); (case c_tree_of => k_is); (case k_tree_of => k_is); (case a__law_is_number => k_is); (case l__law_is_number => k_is); (case c__law_is_number => k_is); (case k__law_is_number => k_is); (case a__law_less => k_is); (case l__law_less => k_is); (case c__law_less => k_is); (case k__law_less => k_is); (case a__law_is_box => k_is); (case l__law_is_box => k_is); (case c__law_is_box => k_is); (case k__law_is_box => k_is); (case a_check_boxes_all => k_is); (case l_check_boxes_all => k_is); (case c_check_boxes_all => k_is); (case k_check_boxes_all => k_is); (case a_spans_meet => k_is); (case l_spans_meet => k_is); (case c_spans_meet => k_is); (case k_spans_meet => k_is); (case a_boxes_meet_by => k_is); (case l_boxes_meet_by => k_is); (case c_boxes_meet_by => k_is); (case k_boxes_meet_by => k_is); (case a_boxes_meet => k_is); (case l_boxes_meet => k_is); (case c_boxes_meet => k_is); (case k_boxes_meet => k_is); (case a_box_around => k_is); (case l_box_around => k_is); (case c_box_around => k_is); (case k_box_around => k_is); (case a_swept_by => k_is); (case l_swept_by => k_is); (case c_swept_by => k_is); (case k_swept_by => k_is); (case a_sweep_row => k_is); (case l_sweep_row => k_is); (case c_sweep_row => k_is); (case k_sweep_row => k_is); (case a_sweep_pairs => k_is); (case l_sweep_pairs => k_is); (case c_sweep_pairs => k_is); (case k_sweep_pairs => k_is); (case a__is_within => k_is); (case l__is_within => k_is); (case c__is_within => k_is); (case k__is_within => k_is); (case a_numbers_in => k_is); (case l_numbers_in => k_is); (case c_numbers_in => k_is); (case k_numbers_in => k_is); (case a__fork_fault => k_is); (case l__fork_fault => k_is); (case c__fork_fault => k_is); (case k__fork_fault => k_is); (case a__is_tree => k_is); (case l__is_tree => k_is); (case c__is_tree => k_is); (case k__is_tree => k_is); (case a_tree_fault => k_is); (case l_tree_fault => k_is); (case c_tree_fault => k_is); (case k_tree_fault => k_is); (case a__check => k_is); (case l__check => k_is); (case c__check => k_is); (case k__check => k_is); (case a__looked => k_is); (case l__looked => k_is); (case c__looked => k_is); (case k__looked => k_is); (case a_found_by => k_is); (case l_found_by => k_is); (case c_found_by => k_is); (case k_found_by => k_is); (case a_looks_by => k_is); (case l_looks_by => k_is); (case c_looks_by => k_is); (case k_looks_by => k_is); (case a_pairs_found => k_is); (case l_pairs_found => k_is); (case c_pairs_found => k_is); (case k_pairs_found => k_is); (case a__law_error => k_is); (case l__law_error => k_is); (case c__law_error => k_is); (case k__law_error => k_is); (case a__law_edge => k_is); (case l__law_edge => k_is); (case c__law_edge => k_is); (case k__law_edge => k_is); (case a__law_around => k_is); (case l__law_around => k_is); (case c__law_around => k_is); (case k__law_around => k_is); (case a__law_meet => k_is); (case l__law_meet => k_is); (case c__law_meet => k_is); (case k__law_meet => k_is); (case a_law => k_is); (case l_law => k_is); (case c_law => k_is); (case k_law => k_is); (case aC_K => k_is); (case aI_K => k_is); (case iI_K => k_is); (case lI_K => k_is); (case cI_K => k_is); (case kI_K => k_is); (case aL_K => k_is); (case iL_K => k_is); (case lL_K => k_is); (case cL_K => k_is); (case kL_K => k_is); (case pg_K => k_is); (case hd_K => k_is); (case po_K => k_is); (case sa_K => k_is); (case mk_K => k_is); (case kc_K => k_is); (case n1_K => k_is); (case n2_K => k_is); (case n3_K => k_is); (case n4_K => k_is)

