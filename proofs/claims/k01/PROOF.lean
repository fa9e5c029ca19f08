import PyProof.Rows.All
import Wide.All
import OpenK.AllK
import Wide.FinOn
import HandS.ForMost
import HandS.ForExc
import HandS.TryMany
import HandS.IsInst
import HandS.Deep
import HandS.Wide
import HandS.Zip
import HandS.TupAny
import HandS.Conv
import HandS.SortInts
import HandS.SortRule
import HandS.Flow
import HandS.Style
import HandS.RevTup
import HandS.TupSets
import HandS.ExcIs
import KE.DataFind
import KE.GoesEnum
import HandS.Strs
import HandS.NoneIn
import HandS.TupMul
import KE.KTryMore
import HandS.DictComp
import HandS.IterVal
import HandS.List
import PySem.Challenge.RW_touchtrue_k01_whole_shapes
set_option Elab.async false
set_option linter.all false
set_option maxRecDepth 100000
set_option maxHeartbeats 4000000
/-! TdCore: a layer of plain data over the hand layer: a def's body as a function of data. -/
namespace TD
open PySem PySem.Spec PyProof.Rows L2

abbrev D := PyData
/-- what an expression comes to: data, an error by its class's name, or nothing that is known -/
inductive R (α : Type) where
  | ok (a : α) | ex (x : Str) | no
def R.bind {α β : Type} : R α → (α → R β) → R β
  | .ok a, k => k a
  | .ex x, _ => .ex x
  | .no, _ => .no
@[simp] theorem R.ok_bind {α β : Type} (a : α) (k : α → R β) : (R.ok a).bind k = k a := rfl
@[simp] theorem R.ex_bind {α β : Type} (x : Str) (k : α → R β) : (R.ex x : R α).bind k = .ex x := rfl
@[simp] theorem R.no_bind {α β : Type} (k : α → R β) : (R.no : R α).bind k = .no := rfl
instance : Monad R where
  pure := R.ok
  bind := R.bind
@[simp] theorem R.pure_eq {α : Type} (a : α) : (pure a : R α) = .ok a := rfl
@[simp] theorem R.bind_eq {α β : Type} (a : R α) (k : α → R β) : (a >>= k) = a.bind k := rfl
@[simp] theorem R.map_eq {α β : Type} (a : R α) (k : α → β) : (k <$> a) = a.bind fun x => .ok (k x) := rfl

/-- the script, as a value that is read only at its own places -/
def scrD (ns : List Int) : D := .dict [(.none, .list (ns.map .int))]
/-- a tuple known to be plain (its methods may be called) -/
def ptD (ds : List D) : D := .dict [(.int 0, .tuple ds)]
/-- an object whose fields "hits" and "count" may be read -/
def lkD (hs : List D) (n : Int) : D := .dict [(.bool true, .tuple [.list hs, .int n])]
mutual
inductive Rp (K : PySem.W.Frag) (H : Hp) : V → D → Prop
  | non : Rp K H .non .none
  | bl (b : Bool) : Rp K H (.bl b) (.bool b)
  | int (i : Int) : Rp K H (.int i) (.int i)
  | str (x : Str) : Rp K H (.str x) (.str x)
  | lst {a : Addr} {xs : List V} {ds : List D} : H a = some (.lst xs) → RpAll K H xs ds → Rp K H (.ref a) (.list ds)
  | tup {a : Addr} {xs : List V} {ds : List D} : SqT K H a xs → RpAll K H xs ds → Rp K H (.ref a) (.tuple ds)
  | scr {a : Addr} {ns : List Int} : SqL K H a (ns.map V.int) → Rp K H (.ref a) (scrD ns)
  | plt {a : Addr} {o : Obj} {xs : List V} {ds : List D} : H a = some (.frz o (.tup xs)) → o.cls = .type "tuple" → o.dict = none → RpAll K H xs ds → Rp K H (.ref a) (ptD ds)
  | obj {a C dx h : Addr} {fs : List (Str × V)} {vs : List V} {hs : List D} {n : Int} : H a = some (.ins C dx fs) → Cls K C → NoAttr K C "hits" → NoAttr K C "count" → fs.lookup ("hits" : Str) = some (.ref h) → fs.lookup ("count" : Str) = some (.int n) → H h = some (.lst vs) → RpAll K H vs hs → Rp K H (.ref a) (lkD hs n)
inductive RpAll (K : PySem.W.Frag) (H : Hp) : List V → List D → Prop
  | nil : RpAll K H [] []
  | cons {v : V} {vs : List V} {d : D} {ds : List D} : Rp K H v d → RpAll K H vs ds → RpAll K H (v :: vs) (d :: ds)
end

section
variable {K : PySem.W.Frag} {H H' : Hp}
theorem Same.seqT {a : Addr} {xs : List V} (e : Same H H') (h : SqT K H a xs) : SqT K H' a xs := by
  rcases h with (h | ⟨o, h⟩) | h
  · exact .inl (.inl (e _ _ h))
  · exact .inl (.inr ⟨o, e _ _ h⟩)
  · exact .inr h
theorem pt_inv {v : V} {ds : List D} (h : Rp K H v (ptD ds)) : ∃ (a : Addr) (o : Obj) (xs : List V), v = .ref a ∧ H a = some (.frz o (.tup xs)) ∧ o.cls = .type "tuple" ∧ o.dict = none ∧ RpAll K H xs ds := by
  generalize hd : ptD ds = d at h
  cases h with
  | plt h1 h2 h3 h4 => cases hd; exact ⟨_, _, _, rfl, h1, h2, h3, h4⟩
  | scr h1 => cases hd
  | _ => cases hd
theorem lk_inv {v : V} {hs : List D} {n : Int} (q : Rp K H v (lkD hs n)) : ∃ (a C dx h : Addr) (fs : List (Str × V)) (vs : List V), v = .ref a ∧ H a = some (.ins C dx fs) ∧ Cls K C ∧ NoAttr K C "hits" ∧ NoAttr K C "count" ∧ fs.lookup ("hits" : Str) = some (.ref h) ∧ fs.lookup ("count" : Str) = some (.int n) ∧ H h = some (.lst vs) ∧ RpAll K H vs hs := by
  generalize hd : lkD hs n = d at q
  cases q with
  | obj h1 h2 h3 h4 h5 h6 h7 h8 => cases hd; exact ⟨_, _, _, _, _, _, rfl, h1, h2, h3, h4, h5, h6, h7, h8⟩
  | _ => cases hd
mutual
theorem Rp.mono (e : Same H H') : ∀ (d : D) (v : V), Rp K H v d → Rp K H' v d
  | .none, _, h => by cases h; exact .non
  | .bool _, _, h => by cases h; exact .bl _
  | .int _, _, h => by cases h; exact .int _
  | .str _, _, h => by cases h; exact .str _
  | .list ds, _, h => by
    cases h with
    | lst h1 h2 => exact .lst (e _ _ h1) (RpAll.mono e ds _ h2)
  | .tuple ds, _, h => by
    cases h with
    | tup h1 h2 => exact .tup (TD.Same.seqT e h1) (RpAll.mono e ds _ h2)
  | .dict kvs, v, h => by
    by_cases hp : ∃ ds, PyData.dict kvs = ptD ds
    · obtain ⟨ds, hp⟩ := hp
      have hlt : sizeOf ds < 1 + sizeOf kvs := by have e := congrArg sizeOf hp; simp [ptD] at e; omega
      obtain ⟨a, o, xs, rfl, h1, h2, h3, h4⟩ := pt_inv (show Rp K H v (ptD ds) from hp ▸ h)
      exact hp ▸ Rp.plt (e _ _ h1) h2 h3 (RpAll.mono e ds _ h4)
    · by_cases hp2 : ∃ hs n, PyData.dict kvs = lkD hs n
      · obtain ⟨hs, n, hp2⟩ := hp2
        have hlt : sizeOf hs < 1 + sizeOf kvs := by have e := congrArg sizeOf hp2; simp [lkD] at e; omega
        obtain ⟨a, C, dx, hh, fs, vs, rfl, h1, h2, h3, h4, h5, h6, h7, h8⟩ := lk_inv (show Rp K H v (lkD hs n) from hp2 ▸ h)
        exact hp2 ▸ Rp.obj (e _ _ h1) h2 h3 h4 h5 h6 (e _ _ h7) (RpAll.mono e hs _ h8)
      · generalize hd : PyData.dict kvs = d at h
        cases h with
        | scr h1 => exact .scr (e.seq h1)
        | plt h1 h2 h3 h4 => exact absurd ⟨_, hd⟩ hp
        | obj h1 h2 h3 h4 h5 h6 h7 h8 => exact absurd ⟨_, _, hd⟩ hp2
        | _ => cases hd
theorem RpAll.mono (e : Same H H') : ∀ (ds : List D) (vs : List V), RpAll K H vs ds → RpAll K H' vs ds
  | [], _, h => by cases h; exact .nil
  | d :: ds, _, h => by
    cases h with
    | cons h1 h2 => exact .cons (Rp.mono e d _ h1) (RpAll.mono e ds _ h2)
end
theorem Rp.up {v : V} {d : D} (h : Rp K H v d) (e : Same H H') : Rp K H' v d := Rp.mono e d v h
theorem RpAll.up {vs : List V} {ds : List D} (h : RpAll K H vs ds) (e : Same H H') : RpAll K H' vs ds := RpAll.mono e ds vs h
theorem RpAll.length : ∀ {vs : List V} {ds : List D}, RpAll K H vs ds → vs.length = ds.length
  | _, _, .nil => rfl
  | _, _, .cons _ t => by rw [List.length_cons, List.length_cons, RpAll.length t]
theorem RpAll.get : ∀ {vs : List V} {ds : List D} {i : Nat} {d : D}, RpAll K H vs ds → ds[i]? = some d → ∃ v, vs[i]? = some v ∧ Rp K H v d
  | _, _, _, _, .nil, e => by simp at e
  | _, _, 0, _, .cons r _, e => by simp at e; subst e; exact ⟨_, rfl, r⟩
  | _, _, i + 1, d, .cons _ t, e => by
    obtain ⟨v, h1, h2⟩ := RpAll.get (i := i) (d := d) t (by simpa using e)
    exact ⟨v, by simpa using h1, h2⟩
theorem RpAll.getV : ∀ {vs : List V} {ds : List D} {i : Nat} {v : V}, RpAll K H vs ds → vs[i]? = some v → ∃ d, ds[i]? = some d ∧ Rp K H v d
  | _, _, _, _, .nil, e => by simp at e
  | _, _, 0, _, .cons r _, e => by simp at e; subst e; exact ⟨_, rfl, r⟩
  | _, _, i + 1, v, .cons _ t, e => by
    obtain ⟨d, h1, h2⟩ := RpAll.getV (i := i) (v := v) t (by simpa using e)
    exact ⟨d, by simpa using h1, h2⟩
theorem RpAll.append : ∀ {xs ys : List V} {ds es : List D}, RpAll K H xs ds → RpAll K H ys es → RpAll K H (xs ++ ys) (ds ++ es)
  | _, _, _, _, .nil, s => s
  | _, _, _, _, .cons r t, s => .cons r (RpAll.append t s)
theorem RpAll.one {v : V} {d : D} (r : Rp K H v d) : RpAll K H [v] [d] := .cons r .nil
theorem RpAll.take : ∀ {xs : List V} {ds : List D} (n : Nat), RpAll K H xs ds → RpAll K H (xs.take n) (ds.take n)
  | _, _, 0, _ => .nil
  | _, _, _ + 1, .nil => .nil
  | _, _, n + 1, .cons r t => .cons r (RpAll.take n t)
theorem RpAll.drop : ∀ {xs : List V} {ds : List D} (n : Nat), RpAll K H xs ds → RpAll K H (xs.drop n) (ds.drop n)
  | _, _, 0, r => r
  | _, _, _ + 1, .nil => .nil
  | _, _, n + 1, .cons _ t => RpAll.drop n t
theorem RpAll.dropLast {xs : List V} {ds : List D} (r : RpAll K H xs ds) : RpAll K H xs.dropLast ds.dropLast := by
  rw [List.dropLast_eq_take, List.dropLast_eq_take, r.length]
  exact r.take _
theorem RpAll.reverse : ∀ {xs : List V} {ds : List D}, RpAll K H xs ds → RpAll K H xs.reverse ds.reverse
  | _, _, .nil => .nil
  | _, _, .cons r t => by rw [List.reverse_cons, List.reverse_cons]; exact (RpAll.reverse t).append (.one r)
theorem RpAll.eraseIdx : ∀ {xs : List V} {ds : List D} (i : Nat), RpAll K H xs ds → RpAll K H (xs.eraseIdx i) (ds.eraseIdx i)
  | _, _, _, .nil => .nil
  | _, _, 0, .cons _ t => t
  | _, _, i + 1, .cons r t => .cons r (RpAll.eraseIdx i t)
theorem RpAll.set {v : V} {d : D} (r : Rp K H v d) : ∀ {xs : List V} {ds : List D} (i : Nat), RpAll K H xs ds → RpAll K H (xs.set i v) (ds.set i d)
  | _, _, _, .nil => .nil
  | _, _, 0, .cons _ t => .cons r t
  | _, _, i + 1, .cons q t => .cons q (RpAll.set r i t)
theorem RpAll.ints : ∀ (ns : List Int), RpAll K H (ns.map V.int) (ns.map PyData.int)
  | [] => .nil
  | n :: ns => .cons (.int n) (RpAll.ints ns)
theorem RpAll.of_ints : ∀ {vs : List V} {ns : List Int}, RpAll K H vs (ns.map PyData.int) → vs = ns.map V.int
  | _, [], h => by cases h; rfl
  | _, n :: ns, h => by
    cases h with
    | cons h1 h2 => cases h1; rw [RpAll.of_ints h2]; rfl
theorem RpAll.of_bools : ∀ {vs : List V} {ns : List Bool}, RpAll K H vs (ns.map PyData.bool) → vs = ns.map V.bl
  | _, [], h => by cases h; rfl
  | _, n :: ns, h => by
    cases h with
    | cons h1 h2 => cases h1; rw [RpAll.of_bools h2]; rfl
mutual
/-- data without the script is the hand layer's data -/
theorem Rp.dp : ∀ (d : D) (v : V), Rp K H v d → d.canLay0 = true → Dp K H v d
  | .none, _, h, _ => by cases h; exact .non
  | .bool _, _, h, _ => by cases h; exact .bl _
  | .int _, _, h, _ => by cases h; exact .int _
  | .str _, _, h, _ => by cases h; exact .str _
  | .list ds, _, h, c => by
    cases h with
    | lst h1 h2 => exact .lst (SqL.of h1) (RpAll.dp ds _ h2 (by simpa [PyData.canLay0] using c))
  | .tuple ds, _, h, c => by
    cases h with
    | tup h1 h2 => exact .tup h1 (RpAll.dp ds _ h2 (by simpa [PyData.canLay0] using c))
  | .dict kvs, v, h, c => by simp [PyData.canLay0] at c
theorem RpAll.dp : ∀ (ds : List D) (vs : List V), RpAll K H vs ds → PyData.canLayAll0 ds = true → DpAll K H vs ds
  | [], _, h, _ => by cases h; exact .nil
  | d :: ds, _, h, c => by
    have c' : d.canLay0 = true ∧ PyData.canLayAll0 ds = true := by simpa [PyData.canLayAll0] using c
    cases h with
    | cons h1 h2 => exact .cons (Rp.dp d _ h1 c'.1) (RpAll.dp ds _ h2 c'.2)
end
end

/-! ### heaps that grow -/
/-- G: what is settled (never changes again); H: all that is tracked -/
structure Ext (G0 H0 G H : Hp) : Prop where
  sub : Same G H
  hh : Same H0 H
  gg : Same G0 G
  fr : ∀ p, G0 p = none → G p ≠ none → H0 p = none
theorem Ext.refl {G H : Hp} (h : Same G H) : Ext G H G H := ⟨h, .refl _, .refl _, fun _ a b => absurd a b⟩
theorem Ext.trans {G0 H0 G1 H1 G2 H2 : Hp} (a : Ext G0 H0 G1 H1) (b : Ext G1 H1 G2 H2) : Ext G0 H0 G2 H2 := by
  refine ⟨b.sub, a.hh.trans b.hh, a.gg.trans b.gg, fun p h1 h2 => ?_⟩
  by_cases h : G1 p = none
  · exact a.hh.free (b.fr p h h2)
  · exact a.fr p h1 h
theorem same_upd {H : Hp} {p : Addr} {o : HO} (h : H p = none) : Same H (upd H p o) := fun b x e => by
  rw [upd_ne (ne_of_none e h)]
  exact e
theorem same_upd2 {G H : Hp} {p : Addr} {o : HO} (h : Same G H) : Same (upd G p o) (upd H p o) := fun b x e => by
  by_cases hb : b = p
  · subst hb; rw [upd_same] at e ⊢; exact e
  · rw [upd_ne hb] at e ⊢; exact h b x e
theorem Ext.new {G H : Hp} {p : Addr} {o : HO} (h : Same G H) (hp : H p = none) : Ext G H (upd G p o) (upd H p o) := by
  refine ⟨same_upd2 h, same_upd hp, same_upd (h.free hp), fun q h1 h2 => ?_⟩
  by_cases hq : q = p
  · subst hq; exact hp
  · rw [upd_ne hq] at h2; exact absurd h1 h2

/-! ### expressions -/
/-- a name's place: settled data, or a list of the body's own that nothing else holds -/
inductive Sl where
  | pu (d : D) | ow (ds : List D)
abbrev EnvS := List (Option Sl)
structure EnvE (K : PySem.W.Frag) (G H : Hp) (σ : L2.St) (ρ : EnvS) : Prop where
  pu : ∀ (i : Nat) (d : D), ρ[i]? = some (some (.pu d)) → ∃ v, σ[i]? = some (some v) ∧ Rp K G v d
  ow : ∀ (i : Nat) (ds : List D), ρ[i]? = some (some (.ow ds)) → ∃ p vs, σ[i]? = some (some (.ref p)) ∧ H p = some (.lst vs) ∧ G p = none ∧ RpAll K G vs ds
  len : σ.length = ρ.length
theorem EnvE.up {K : PySem.W.Frag} {G H G' H' : Hp} {σ : L2.St} {ρ : EnvS} (h : EnvE K G H σ ρ) (e : Ext G H G' H') : EnvE K G' H' σ ρ := by
  refine ⟨fun i d q => ?_, fun i ds q => ?_, h.len⟩
  · obtain ⟨v, h1, h2⟩ := h.pu i d q
    exact ⟨v, h1, h2.up e.gg⟩
  · obtain ⟨p, vs, h1, h2, h3, h4⟩ := h.ow i ds q
    refine ⟨p, vs, h1, e.hh _ _ h2, ?_, h4.up e.gg⟩
    by_cases hp : G' p = none
    · exact hp
    · rw [e.fr p h3 hp] at h2; cases h2

/-- what is wanted behind: of the data's values, or of an error -/
def Post {α υ : Type} (rp : Hp → υ → α → Prop) (Wx : Str → Hp → Prop) (G H : Hp) (r : R α) (Q : υ → Hp → Prop) : Prop :=
  match r with
  | .ok a => ∀ v G' H', Ext G H G' H' → rp G' v a → Q v H'
  | .ex x => ∀ G' H', Ext G H G' H' → Wx x H'
  | .no => False
theorem Post.later {α υ : Type} {rp : Hp → υ → α → Prop} {Wx : Str → Hp → Prop} {G H G1 H1 : Hp} {r : R α} {Q : υ → Hp → Prop} (h : Post rp Wx G H r Q) (e : Ext G H G1 H1) : Post rp Wx G1 H1 r Q := by
  cases r with
  | ok a => exact fun v G' H' e' => h v G' H' (e.trans e')
  | ex x => exact fun G' H' e' => h G' H' (e.trans e')
  | no => exact h
theorem Post.mono {α υ : Type} {rp : Hp → υ → α → Prop} {Wx : Str → Hp → Prop} {G H : Hp} {r : R α} {Q Q' : υ → Hp → Prop} (h : Post rp Wx G H r Q) (q : ∀ v H', Q v H' → Q' v H') : Post rp Wx G H r Q' := by
  cases r with
  | ok a => exact fun v G' H' e' r => q _ _ (h v G' H' e' r)
  | ex x => exact h
  | no => exact h

abbrev rpE (K : PySem.W.Frag) : Hp → V → D → Prop := fun G v d => Rp K G v d
abbrev rpB : Hp → Bool → Bool → Prop := fun _ a b => a = b
abbrev rpL (K : PySem.W.Frag) : Hp → List V → List D → Prop := fun G v d => RpAll K G v d
abbrev Wxo (mg : Str → Option Value) (W : WX) (σ : L2.St) : Str → Hp → Prop := fun x H => ∀ c, mg x = some c → W c none σ H

def tD {α υ : Type} (K : PySem.W.Frag) (mg : Str → Option Value) (W : WX) (rp : Hp → υ → α → Prop) (f : EnvS → R α) : L2.St → Hp → (υ → Hp → Prop) → Prop := fun σ H Q =>
  ∃ G ρ, Same G H ∧ EnvE K G H σ ρ ∧ Post rp (Wxo mg W σ) G H (f ρ) Q
abbrev PD (X : Cx) (W : WX) (e : Expr) (f : EnvS → R D) : Prop := PE X e (tD X.K X.mg W (rpE X.K) f)
abbrev PTD (X : Cx) (W : WX) (e : Expr) (f : EnvS → R Bool) : Prop := PT X e (tD X.K X.mg W rpB f)
abbrev PWD (X : Cx) (W : WX) (e : Expr) (f : EnvS → R Bool) : Prop := PW X e (tD X.K X.mg W rpB f)
abbrev PAD (X : Cx) (W : WX) (es : List Expr) (f : EnvS → R (List D)) : Prop := PA X es (tD X.K X.mg W (rpL X.K) f)

theorem _root_.L2.PE.wk {X : Cx} {e : Expr} {t t' : TE} (h : PE X e t) (w : ∀ σ H Q, t' σ H Q → t σ H Q) : PE X e t' := ⟨fun pins s σ H Q I q => h.run pins s σ H Q I (w σ H Q q)⟩
theorem _root_.L2.PT.wk {X : Cx} {e : Expr} {t t' : TT} (h : PT X e t) (w : ∀ σ H Q, t' σ H Q → t σ H Q) : PT X e t' := ⟨fun pins s σ H Q I q => h.run pins s σ H Q I (w σ H Q q)⟩
theorem _root_.L2.PW.wk {X : Cx} {e : Expr} {t t' : TT} (h : PW X e t) (w : ∀ σ H Q, t' σ H Q → t σ H Q) : PW X e t' := ⟨fun wh pins s σ H Q I q => h.run wh pins s σ H Q I (w σ H Q q)⟩
theorem _root_.L2.PA.wk {X : Cx} {es : List Expr} {t t' : TA} (h : PA X es t) (w : ∀ σ H Q, t' σ H Q → t σ H Q) : PA X es t' := ⟨fun pos pins s σ H Q I q => h.run pos pins s σ H Q I (w σ H Q q)⟩
theorem _root_.L2.PS.wk {X : Cx} {e : Stmt} {t t' : TS} (h : PS X e t) (w : ∀ D σ H, t' D σ H → t D σ H) : PS X e t' := ⟨fun pins s σ H D I q => h.run pins s σ H D I (w D σ H q)⟩
theorem _root_.L2.PSs.wk {X : Cx} {e : List Stmt} {t t' : TS} (h : PSs X e t) (w : ∀ D σ H, t' D σ H → t D σ H) : PSs X e t' := ⟨fun pins s σ H D I q => h.run pins s σ H D I (w D σ H q)⟩

section
variable {K : PySem.W.Frag} {mg : Str → Option Value} {W : WX} {σ : L2.St} {ρ : EnvS} {G H : Hp}
/-- the first part of a sequence -/
theorem Post.seq {α β υ ω : Type} {rp : Hp → υ → α → Prop} {rq : Hp → ω → β → Prop} {f : EnvS → R α} {k : α → R β} {Q : ω → Hp → Prop} {Q1 : υ → Hp → Prop}
    (h : Post rq (Wxo mg W σ) G H ((f ρ).bind k) Q) (hs : Same G H) (he : EnvE K G H σ ρ)
    (q : ∀ a v G1 H1, f ρ = .ok a → Ext G H G1 H1 → rp G1 v a → EnvE K G1 H1 σ ρ → Post rq (Wxo mg W σ) G1 H1 (k a) Q → Q1 v H1) : tD K mg W rp f σ H Q1 := by
  refine ⟨G, ρ, hs, he, ?_⟩
  cases e : f ρ with
  | ok a =>
    rw [e] at h
    intro v G1 H1 e1 r1
    exact q a v G1 H1 e e1 r1 (he.up e1) (Post.later h e1)
  | ex x =>
    rw [e] at h
    exact h
  | no =>
    rw [e] at h
    exact h.elim
theorem Post.done {α υ : Type} {rp : Hp → υ → α → Prop} {Wx : Str → Hp → Prop} {a : α} {v : υ} {Q : υ → Hp → Prop} (h : Post rp Wx G H (.ok a) Q) (hs : Same G H) (r : rp G v a) : Q v H := h v G H (.refl hs) r
end

/-! ### names and constants -/
def varD (i : Nat) : EnvS → R D := fun ρ => match ρ[i]? with
  | some (some (.pu d)) => .ok d
  | _ => .no
def cD (d : D) : EnvS → R D := fun _ => .ok d
section
variable {X : Cx} {W : WX}
theorem d_var (i : Nat) {x : Str} {pos : Pos} (hN : X.N[i]? = some x := by rfl) (hv : Vis X.env.scope x := by first | exact Or.inl rfl | exact Or.inr (Or.inl rfl) | exact Or.inr (Or.inr rfl)) (hd : (x == ("__debug__" : Str)) = false := by decide)
    (hcd : (x == ("__classdict__" : Str)) = false := by decide) : PD X W (.Name x pos) (varD i) := (pe_var hN hv hd hcd).wk fun σ H Q ⟨G, ρ, hs, he, q⟩ => by
  unfold varD at q
  cases e : ρ[i]? with
  | none => rw [e] at q; exact q.elim
  | some o =>
    cases o with
    | none => rw [e] at q; exact q.elim
    | some d =>
      cases d with
      | ow ds => rw [e] at q; exact q.elim
      | pu d =>
        rw [e] at q
        obtain ⟨v, h1, h2⟩ := he.pu i d e
        exact ⟨v, h1, q.done hs h2⟩
theorem d_int {i j pos} : PD X W (.Constant (.int i) j pos) (cD (.int i)) := pe_int.wk fun σ H Q ⟨G, ρ, hs, he, q⟩ => Post.done q hs (.int i)
theorem d_bl {b j pos} : PD X W (.Constant (.bool b) j pos) (cD (.bool b)) := pe_bl.wk fun σ H Q ⟨G, ρ, hs, he, q⟩ => Post.done q hs (.bl b)
theorem d_non {j pos} : PD X W (.Constant .none j pos) (cD .none) := pe_non.wk fun σ H Q ⟨G, ρ, hs, he, q⟩ => Post.done q hs .non
theorem d_str {x j pos} : PD X W (.Constant (.str x) j pos) (cD (.str x)) := pe_str.wk fun σ H Q ⟨G, ρ, hs, he, q⟩ => Post.done q hs (.str x)
/-- a constant of the module: v is its value -/
theorem d_glob {x : Str} {v : V} {u : Value} {d : D} {pos : Pos} (hg : Gl X x) (hm : X.mg x = some u) (r : RelV v u) (hr : ∀ G, Rp X.K G v d) (hd : (x == ("__debug__" : Str)) = false := by decide) : PD X W (.Name x pos) (cD d) :=
  (pe_glob hg hm r hd).wk fun σ H Q ⟨G, ρ, hs, he, q⟩ => Post.done q hs (hr G)

/-! ### operators -/
def bin2 (k : D → D → R D) (f g : EnvS → R D) : EnvS → R D := fun ρ => (f ρ).bind fun a => (g ρ).bind fun b => k a b
def un1 (k : D → R D) (f : EnvS → R D) : EnvS → R D := fun ρ => (f ρ).bind k
/-- an operator's reading serves a function of data -/
def OpD (X : Cx) (r : R2) (k : D → D → R D) : Prop := ∀ (a b : D) (x y : V) (G H : Hp) (Wx : Str → Hp → Prop) (Q : VK), Same G H → Rp X.K G x a → Rp X.K G y b → Post (rpE X.K) Wx G H (k a b) Q → r x y H Q
theorem tOpD {r : R2} {k : D → D → R D} {f g : EnvS → R D} (hr : OpD X r k) {σ : L2.St} {H : Hp} {Q : VK} (h : tD X.K X.mg W (rpE X.K) (bin2 k f g) σ H Q) : tOp r (tD X.K X.mg W (rpE X.K) f) (tD X.K X.mg W (rpE X.K) g) σ H Q := by
  obtain ⟨G, ρ, hs, he, q⟩ := h
  refine Post.seq q hs he fun a v G1 H1 _ e1 r1 he1 q1 => ?_
  refine Post.seq q1 e1.sub he1 fun b u G2 H2 _ e2 r2 he2 q2 => ?_
  exact hr a b v u G2 H2 _ Q e2.sub (Rp.up r1 e2.gg) r2 q2
theorem d_op {op : Operator} {a b : Expr} {pos : Pos} {r : R2} {k : D → D → R D} {f g : EnvS → R D} (ho : OpR X (binaryOp op) r) (hr : OpD X r k) (ha : PD X W a f) (hb : PD X W b g) : PD X W (.BinOp a op b pos) (bin2 k f g) :=
  (pe_op ho ha hb).wk fun _ _ _ h => tOpD hr h
theorem d_cmp {op : CmpOp} {a b : Expr} {pos : Pos} {r : R2} {k : D → D → R D} {f g : EnvS → R D} (ho : OpR X (compareOp op) r) (hr : OpD X r k) (ha : PD X W a f) (hb : PD X W b g) (hm : behindInMarks op b = false) : PD X W (.Compare a [op] [b] pos) (bin2 k f g) :=
  (pe_cmpR ho ha hb hm).wk fun _ _ _ h => tOpD hr h
/-- data that is a truth value -/
def asB (r : R D) : R Bool := r.bind fun d => match d with
  | .bool b => .ok b
  | _ => .no
abbrev asF (f : EnvS → R D) : EnvS → R Bool := fun ρ => asB (f ρ)
theorem tTestD {f : EnvS → R D} {t : TE} {σ : L2.St} {H : Hp} {Q : Bool → Hp → Prop} (h : tD X.K X.mg W rpB (fun ρ => asB (f ρ)) σ H Q) (ht : ∀ Q', tD X.K X.mg W (rpE X.K) f σ H Q' → t σ H Q') : tTest t σ H Q := by
  obtain ⟨G, ρ, hs, he, q⟩ := h
  refine ht _ (Post.seq q hs he fun a v G1 H1 _ e1 r1 he1 q1 => ?_)
  cases a with
  | bool b =>
    cases r1
    exact ⟨b, rfl, Post.done (rp := rpB) (v := b) q1 e1.sub rfl⟩
  | _ => exact q1.elim
theorem dt_cmp {op : CmpOp} {a b : Expr} {pos : Pos} {r : R2} {k : D → D → R D} {f g : EnvS → R D} (ho : OpR X (compareOp op) r) (hr : OpD X r k) (ha : PD X W a f) (hb : PD X W b g) (hm : behindInMarks op b = false) : PTD X W (.Compare a [op] [b] pos) (fun ρ => asB (bin2 k f g ρ)) :=
  (pt_cmpR ho ha hb hm).wk fun _ _ _ h => tTestD h fun _ h' => tOpD hr h'
theorem dt_val {e : Expr} {f : EnvS → R D} (h : PD X W e f) (he : ∀ whole, isTrue e X.env whole = (do let v ← whole; standAt e.pos; holding [v] (truthy v)) := by intro _; rfl) : PTD X W e (fun ρ => asB (f ρ)) :=
  (pt_val h he).wk fun _ _ _ q => tTestD q fun _ q' => q'
def bTest (k : Bool → R Bool) (f : EnvS → R Bool) : EnvS → R Bool := fun ρ => (f ρ).bind k
def notB (f : EnvS → R Bool) : EnvS → R Bool := fun ρ => (f ρ).bind fun b => .ok (!b)
def andB (f g : EnvS → R Bool) : EnvS → R Bool := fun ρ => (f ρ).bind fun b => if b = true then g ρ else .ok false
def orB (f g : EnvS → R Bool) : EnvS → R Bool := fun ρ => (f ρ).bind fun b => if b = true then .ok true else g ρ
theorem dt_not {a : Expr} {pos : Pos} {f : EnvS → R Bool} (h : PTD X W a f) : PTD X W (.UnaryOp .Not a pos) (notB f) := (pt_not h).wk fun σ H Q ⟨G, ρ, hs, he, q⟩ =>
  Post.seq q hs he fun a v G1 H1 _ e1 r1 he1 q1 => Post.done (rp := rpB) (v := !v) q1 e1.sub (by subst r1; rfl)
theorem dw_and1 {a : Expr} {pos : Pos} {f : EnvS → R Bool} (h : PTD X W a f) : PWD X W (.BoolOp .And [a] pos) f := pw_and1 h
theorem dw_or1 {a : Expr} {pos : Pos} {f : EnvS → R Bool} (h : PTD X W a f) : PWD X W (.BoolOp .Or [a] pos) f := pw_or1 h
theorem dw_and {a b : Expr} {rest : List Expr} {pos : Pos} {f g : EnvS → R Bool} (ha : PTD X W a f) (hb : PWD X W (.BoolOp .And (b :: rest) pos) g) : PWD X W (.BoolOp .And (a :: b :: rest) pos) (andB f g) := (pw_and ha hb).wk fun σ H Q ⟨G, ρ, hs, he, q⟩ =>
  Post.seq q hs he fun a v G1 H1 _ e1 r1 he1 q1 => by
    cases r1
    cases a with
    | true => exact ⟨G1, ρ, e1.sub, he1, q1⟩
    | false => exact Post.done (rp := rpB) (v := false) q1 e1.sub rfl
theorem dw_or {a b : Expr} {rest : List Expr} {pos : Pos} {f g : EnvS → R Bool} (ha : PTD X W a f) (hb : PWD X W (.BoolOp .Or (b :: rest) pos) g) : PWD X W (.BoolOp .Or (a :: b :: rest) pos) (orB f g) := (pw_or ha hb).wk fun σ H Q ⟨G, ρ, hs, he, q⟩ =>
  Post.seq q hs he fun a v G1 H1 _ e1 r1 he1 q1 => by
    cases r1
    cases a with
    | true => exact Post.done (rp := rpB) (v := true) q1 e1.sub rfl
    | false => exact ⟨G1, ρ, e1.sub, he1, q1⟩
theorem dt_w {e : Expr} {f : EnvS → R Bool} (h : PWD X W e f) : PTD X W e f := h.pt
/-- and, or, not as values: all but the last a truth value -/
def andV (f g : EnvS → R D) : EnvS → R D := fun ρ => (asB (f ρ)).bind fun b => if b = true then g ρ else .ok (.bool false)
def orV (f g : EnvS → R D) : EnvS → R D := fun ρ => (asB (f ρ)).bind fun b => if b = true then .ok (.bool true) else g ρ
def notV (f : EnvS → R D) : EnvS → R D := fun ρ => (asB (f ρ)).bind fun b => .ok (.bool !b)
theorem asB_bind {β : Type} (r : R D) (k : Bool → R β) : (asB r).bind k = r.bind fun d => (match d with | .bool b => R.ok b | _ => R.no).bind k := by
  cases r <;> rfl
theorem d_one {op} {a : Expr} {pos : Pos} {f : EnvS → R D} (h : PD X W a f) : PD X W (.BoolOp op [a] pos) f := pe_one h
theorem d_and {a b : Expr} {rest : List Expr} {pos : Pos} {f g : EnvS → R D} (ha : PD X W a f) (hb : PD X W (.BoolOp .And (b :: rest) pos) g) : PD X W (.BoolOp .And (a :: b :: rest) pos) (andV f g) := (pe_and ha hb).wk fun σ H Q ⟨G, ρ, hs, he, q⟩ => by
  unfold andV at q
  rw [asB_bind] at q
  refine Post.seq q hs he fun a v G1 H1 _ e1 r1 he1 q1 => ?_
  cases a with
  | bool b =>
    cases r1
    refine ⟨b, rfl, ?_⟩
    cases b with
    | true => exact ⟨G1, ρ, e1.sub, he1, q1⟩
    | false => exact Post.done (rp := rpE X.K) q1 e1.sub (.bl false)
  | _ => exact q1.elim
theorem d_or {a b : Expr} {rest : List Expr} {pos : Pos} {f g : EnvS → R D} (ha : PD X W a f) (hb : PD X W (.BoolOp .Or (b :: rest) pos) g) : PD X W (.BoolOp .Or (a :: b :: rest) pos) (orV f g) := (pe_or ha hb).wk fun σ H Q ⟨G, ρ, hs, he, q⟩ => by
  unfold orV at q
  rw [asB_bind] at q
  refine Post.seq q hs he fun a v G1 H1 _ e1 r1 he1 q1 => ?_
  cases a with
  | bool b =>
    cases r1
    refine ⟨b, rfl, ?_⟩
    cases b with
    | true => exact Post.done (rp := rpE X.K) q1 e1.sub (.bl true)
    | false => exact ⟨G1, ρ, e1.sub, he1, q1⟩
  | _ => exact q1.elim
theorem d_not {a : Expr} {pos : Pos} {f : EnvS → R D} (h : PD X W a f) : PD X W (.UnaryOp .Not a pos) (notV f) := (pe_not h).wk fun σ H Q ⟨G, ρ, hs, he, q⟩ => by
  unfold notV at q
  rw [asB_bind] at q
  refine Post.seq q hs he fun a v G1 H1 _ e1 r1 he1 q1 => ?_
  cases a with
  | bool b =>
    cases r1
    exact ⟨b, rfl, Post.done (rp := rpE X.K) q1 e1.sub (.bl _)⟩
  | _ => exact q1.elim
def ifD (c : EnvS → R Bool) (f g : EnvS → R D) : EnvS → R D := fun ρ => (c ρ).bind fun b => if b = true then f ρ else g ρ
theorem d_if {c a b : Expr} {pos : Pos} {t : EnvS → R Bool} {f g : EnvS → R D} (hc : PTD X W c t) (ha : PD X W a f) (hb : PD X W b g) : PD X W (.IfExp c a b pos) (ifD t f g) := (pe_ifExp hc ha hb).wk fun σ H Q ⟨G, ρ, hs, he, q⟩ =>
  Post.seq q hs he fun a v G1 H1 _ e1 r1 he1 q1 => by
    cases r1
    cases a with
    | true => exact ⟨G1, ρ, e1.sub, he1, q1⟩
    | false => exact ⟨G1, ρ, e1.sub, he1, q1⟩
/-- a unary operator -/
def UnD (X : Cx) (r : V → Hp → VK → Prop) (k : D → R D) : Prop := ∀ (a : D) (x : V) (G H : Hp) (Wx : Str → Hp → Prop) (Q : VK), Same G H → Rp X.K G x a → Post (rpE X.K) Wx G H (k a) Q → r x H Q
theorem d_un {op : UnaryOp} {a : Expr} {pos : Pos} {r : V → Hp → VK → Prop} {k : D → R D} {f : EnvS → R D} (ho : UnR X (unaryOp op) r) (hr : UnD X r k) (ha : PD X W a f) : PD X W (.UnaryOp op a pos) (un1 k f) := (pe_un ho ha).wk fun σ H Q ⟨G, ρ, hs, he, q⟩ =>
  Post.seq q hs he fun a v G1 H1 _ e1 r1 he1 q1 => hr a v G1 H1 _ Q e1.sub r1 q1
/-- a chain of two comparisons -/
def chD (k k' : D → D → R D) (f g h : EnvS → R D) : EnvS → R D := fun ρ => (f ρ).bind fun a => (g ρ).bind fun b => (k a b).bind fun c => match c with
  | .bool true => (h ρ).bind fun d => k' b d
  | .bool false => .ok (.bool false)
  | _ => .no
end
end TD

/-! TdOps: operators, subscripts, displays, calls of built-ins, over data. -/
namespace TD
open PySem PySem.Spec PyProof.Rows L2
def lineOk (n : Nat) : Bool := decide (n ≤ 16777216)
theorem lineOk_le {n : Nat} (h : lineOk n = true) : n ≤ sizeLine := by rw [sizeLine_eq]; exact of_decide_eq_true h
def mulOk (a b : Int) : Bool := decide (a.natAbs.log2 + b.natAbs.log2 < 1000000)
def divOk (b : Int) : Bool := decide (b ≠ 0) && decide (b.natAbs.log2 < 9000)
def intsOf : List D → Option (List Int)
  | [] => some []
  | .int i :: r => (intsOf r).map (i :: ·)
  | _ :: _ => none
theorem intsOf_map : ∀ ns : List Int, intsOf (ns.map PyData.int) = some ns
  | [] => rfl
  | n :: r => by show (intsOf (r.map PyData.int)).map (n :: ·) = _; rw [intsOf_map r]; rfl
theorem intsOf_some : ∀ {ds : List D} {ns : List Int}, intsOf ds = some ns → ds = ns.map PyData.int
  | [], ns, h => by cases h; rfl
  | .int i :: r, ns, h => by
    unfold intsOf at h
    cases e : intsOf r with
    | none => rw [e] at h; cases h
    | some ms => rw [e] at h; cases h; rw [intsOf_some e]; rfl
  | .none :: r, ns, h => by cases h
  | .bool _ :: r, ns, h => by cases h
  | .str _ :: r, ns, h => by cases h
  | .list _ :: r, ns, h => by cases h
  | .tuple _ :: r, ns, h => by cases h
  | .dict _ :: r, ns, h => by cases h
def boolsOf : List D → Option (List Bool)
  | [] => some []
  | .bool i :: r => (boolsOf r).map (i :: ·)
  | _ :: _ => none
theorem boolsOf_map : ∀ ns : List Bool, boolsOf (ns.map PyData.bool) = some ns
  | [] => rfl
  | n :: r => by show (boolsOf (r.map PyData.bool)).map (n :: ·) = _; rw [boolsOf_map r]; rfl
theorem boolsOf_some : ∀ {ds : List D} {ns : List Bool}, boolsOf ds = some ns → ds = ns.map PyData.bool
  | [], ns, h => by cases h; rfl
  | .bool i :: r, ns, h => by
    unfold boolsOf at h
    cases e : boolsOf r with
    | none => rw [e] at h; cases h
    | some ms => rw [e] at h; cases h; rw [boolsOf_some e]; rfl
  | .none :: r, ns, h => by cases h
  | .int _ :: r, ns, h => by cases h
  | .str _ :: r, ns, h => by cases h
  | .list _ :: r, ns, h => by cases h
  | .tuple _ :: r, ns, h => by cases h
  | .dict _ :: r, ns, h => by cases h

/-! ### the functions -/
def addD : D → D → R D
  | .int a, .int b => .ok (.int (a + b))
  | .str a, .str b => if lineOk (a.length + b.length) then .ok (.str (a ++ b)) else .no
  | .list a, .list b => if lineOk (a.length + b.length) then .ok (.list (a ++ b)) else .no
  | .tuple a, .tuple b => if lineOk (a.length + b.length) then .ok (.tuple (a ++ b)) else .no
  | _, _ => .no
def subD : D → D → R D
  | .int a, .int b => .ok (.int (a - b))
  | _, _ => .no
def mulD : D → D → R D
  | .int a, .int b => if mulOk a b then .ok (.int (a * b)) else .no
  | _, _ => .no
def fdivD : D → D → R D
  | .int a, .int b => if divOk b then .ok (.int (a.fdiv b)) else .no
  | _, _ => .no
def modD : D → D → R D
  | .int a, .int b => if decide (b ≠ 0) then .ok (.int (a.fmod b)) else .no
  | _, _ => .no
def powD : D → D → R D
  | .int a, .int b => if decide (0 ≤ b ∧ b ≤ 1000000 ∧ a.natAbs < 18446744073709551616) then .ok (.int (a ^ b.toNat)) else .no
  | _, _ => .no
def negD : D → R D
  | .int a => .ok (.int (-a))
  | _ => .no
def okD (d : D) : Bool := SeqAt.shaped d
def eqD (a b : D) : R D := if okD a && okD b then .ok (.bool (PyData.eqv a b)) else .no
def neD (a b : D) : R D := if okD a && okD b then .ok (.bool (!PyData.eqv a b)) else .no
def ltD : D → D → R D
  | .int a, .int b => .ok (.bool (decide (a < b)))
  | .str a, .str b => .ok (.bool (decide (a.cps.toList < b.cps.toList)))
  | .tuple a, .tuple b => match intsOf a, intsOf b with
    | some x, some y => .ok (.bool (HT.lexLt x y))
    | _, _ => .no
  | _, _ => .no
def leD : D → D → R D
  | .int a, .int b => .ok (.bool (decide (a ≤ b)))
  | _, _ => .no
def gtD : D → D → R D
  | .int a, .int b => .ok (.bool (decide (b < a)))
  | _, _ => .no
def geD : D → D → R D
  | .int a, .int b => .ok (.bool (decide (b ≤ a)))
  | _, _ => .no
def isND : D → D → R D
  | .none, .none => .ok (.bool true)
  | _, .none => .ok (.bool false)
  | _, _ => .no
def notND : D → D → R D
  | .none, .none => .ok (.bool false)
  | _, .none => .ok (.bool true)
  | _, _ => .no
def flatD : D → Bool
  | .none => true | .bool _ => true | .int _ => true | .str _ => true | _ => false
def inD (a : D) : D → R D
  | .list ds => if okD a && okD (.list ds) then .ok (.bool (ds.any fun z => PyData.eqv z a)) else .no
  | .str t => match a with
    | .str s => .ok (.bool (!(Builtin.Str.occurrences t s 0 t.length 1).isEmpty))
    | _ => .no
  | _ => .no
def notInD (a : D) : D → R D
  | .list ds => if okD a && okD (.list ds) then .ok (.bool (!ds.any fun z => PyData.eqv z a)) else .no
  | .str t => match a with
    | .str s => .ok (.bool (!(!(Builtin.Str.occurrences t s 0 t.length 1).isEmpty)))
    | _ => .no
  | _ => .no
/-- an item, from the end below 0 -/
def atD {α : Type} (ds : List α) (i : Int) : Option α := if 0 ≤ i then ds[i.toNat]? else if -(ds.length : Int) ≤ i then ds[(i + ds.length).toNat]? else none
def optR {α : Type} : Option α → R α
  | some a => .ok a
  | none => .no
def ixD : D → D → R D
  | .list ds, .int i => optR (atD ds i)
  | .tuple ds, .int i => optR (atD ds i)
  | .str z, .int i => if lineOk z.length then (optR (atD z.cps.toList i)).bind fun c => .ok (.str ⟨#[c]⟩) else .no
  | _, _ => .no
theorem atD_at {α : Type} {ds : List α} {i : Int} {d : α} (h : atD ds i = some d) : ∃ j, ixN ds.length i = some j ∧ ds[j]? = some d := by
  unfold atD at h
  unfold ixN
  split at h
  · rename_i h0
    rw [if_pos h0]
    have hl := List.getElem?_eq_some_iff.mp h
    obtain ⟨hj, _⟩ := hl
    rw [if_pos (by omega)]
    exact ⟨_, rfl, h⟩
  · rename_i h0
    rw [if_neg h0]
    split at h
    · rename_i h1
      rw [if_pos h1]
      exact ⟨_, rfl, h⟩
    · cases h
def cutD {α : Type} (xs : List α) (lo hi : Option Int) : List α := (xs.drop (HT.sIx xs.length 0 lo)).take (HT.sIx xs.length xs.length hi - HT.sIx xs.length 0 lo)

/-! ### ints, comparisons -/
section
variable {X : Cx}
theorem OpD.or {r r' : R2} {k : D → D → R D} (h : ∀ (a b : D) (x y : V) (G H : Hp) (Wx : Str → Hp → Prop) (Q : VK), Same G H → Rp X.K G x a → Rp X.K G y b → Post (rpE X.K) Wx G H (k a b) Q → r x y H Q ∨ r' x y H Q) : OpD X (fun x y H Q => r x y H Q ∨ r' x y H Q) k := h
theorem Rp.seqT {K : PySem.W.Frag} {G H : Hp} {v : V} {ds : List D} (h : Rp K G v (.tuple ds)) (hs : Same G H) : ∃ a xs, v = .ref a ∧ SqT K H a xs ∧ SqT K G a xs ∧ RpAll K G xs ds := by
  cases h with
  | tup h1 h2 => exact ⟨_, _, rfl, TD.Same.seqT hs h1, h1, h2⟩
theorem Rp.seqL {K : PySem.W.Frag} {G H : Hp} {v : V} {ds : List D} (h : Rp K G v (.list ds)) (hs : Same G H) : ∃ a xs, v = .ref a ∧ H a = some (.lst xs) ∧ G a = some (.lst xs) ∧ RpAll K G xs ds := by
  cases h with
  | lst h1 h2 => exact ⟨_, _, rfl, hs _ _ h1, h1, h2⟩
def rAddAll (K : PySem.W.Frag) : R2 := fun x y H Q => (rI0 fun i j => .int (i + j)) x y H Q ∨ ((fun x y H Q => ∃ i j, x = .str i ∧ y = .str j ∧ i.length + j.length ≤ sizeLine ∧ Q (.str (i ++ j)) H) x y H Q ∨ (rCat x y H Q ∨ rCatA K x y H Q))
theorem or_add : OpR X (binaryOp .Add) (rAddAll X.K) := op_add.or (op_add_str.or (op_cat.or op_catA))
theorem od_add : OpD X (rAddAll X.K) addD := by
  intro a b x y G H Wx Q hs ra rb q
  unfold addD at q
  split at q
  · cases ra; cases rb
    exact .inl ⟨_, _, rfl, rfl, q.done hs (.int _)⟩
  · cases ra; cases rb
    split at q
    · rename_i h
      exact .inr (.inl ⟨_, _, rfl, rfl, lineOk_le h, q.done hs (.str _)⟩)
    · exact q.elim
  · split at q
    · rename_i h
      obtain ⟨l, xs, rfl, h1, g1, p1⟩ := ra.seqL hs
      obtain ⟨l2, ys, rfl, h2, g2, p2⟩ := rb.seqL hs
      refine .inr (.inr (.inl ⟨l, l2, xs, ys, rfl, rfl, h1, h2, by rw [p1.length, p2.length]; exact lineOk_le h, fun p hp => ?_⟩))
      have e := Ext.new (o := .lst (xs ++ ys)) hs hp
      exact q _ _ _ e (.lst upd_same ((p1.append p2).up e.gg))
    · exact q.elim
  · split at q
    · rename_i h
      obtain ⟨l, xs, rfl, h1, g1, p1⟩ := ra.seqT hs
      obtain ⟨l2, ys, rfl, h2, g2, p2⟩ := rb.seqT hs
      refine .inr (.inr (.inr ⟨l, l2, xs, ys, rfl, rfl, h1, h2, by rw [p1.length, p2.length]; exact lineOk_le h, fun e => ?_, fun _ e => ?_, fun _ _ p hp => ?_⟩))
      · subst e
        cases p1
        exact q.done hs rb
      · subst e
        cases p2
        rw [List.append_nil] at q
        exact q.done hs ra
      · have e := Ext.new (o := .tup (xs ++ ys)) hs hp
        exact q _ _ _ e (.tup (SqT.of upd_same) ((p1.append p2).up e.gg))
    · exact q.elim
  · exact q.elim
theorem od_int {r : R2} {k : D → D → R D} {C : Int → Int → Prop} {g : Int → Int → V} {gd : Int → Int → D} (hr : r = rI C g) (hg : ∀ i j K G, Rp K G (g i j) (gd i j))
    (hk : ∀ a b, (∃ i j, a = .int i ∧ b = .int j ∧ (k a b = .no ∨ (C i j ∧ k a b = .ok (gd i j)))) ∨ k a b = .no) : OpD X r k := by
  intro a b x y G H Wx Q hs ra rb q
  subst hr
  rcases hk a b with ⟨i, j, rfl, rfl, h | ⟨hc, h⟩⟩ | h
  · rw [h] at q; exact q.elim
  · cases ra; cases rb
    rw [h] at q
    exact ⟨i, j, rfl, rfl, hc, q.done hs (hg i j _ _)⟩
  · rw [h] at q; exact q.elim
theorem od_int0 {r : R2} {k : D → D → R D} {g : Int → Int → V} {gd : Int → Int → D} (hr : r = rI0 g) (hg : ∀ i j K G, Rp K G (g i j) (gd i j))
    (hk : ∀ a b, (∃ i j, a = .int i ∧ b = .int j ∧ k a b = .ok (gd i j)) ∨ k a b = .no) : OpD X r k := by
  intro a b x y G H Wx Q hs ra rb q
  subst hr
  rcases hk a b with ⟨i, j, rfl, rfl, h⟩ | h
  · cases ra; cases rb
    rw [h] at q
    exact ⟨i, j, rfl, rfl, q.done hs (hg i j _ _)⟩
  · rw [h] at q; exact q.elim
theorem od_sub : OpD X (rI0 fun i j => .int (i - j)) subD := od_int0 (gd := fun i j => .int (i - j)) rfl (fun i j _ _ => .int _) (by intro a b; cases a <;> first | exact .inr rfl | (cases b <;> first | exact .inr rfl | exact .inl ⟨_, _, rfl, rfl, rfl⟩))
theorem od_le : OpD X (rI0 fun i j => .bl (decide (i ≤ j))) leD := od_int0 (gd := fun i j => .bool (decide (i ≤ j))) rfl (fun i j _ _ => .bl _) (by intro a b; cases a <;> first | exact .inr rfl | (cases b <;> first | exact .inr rfl | exact .inl ⟨_, _, rfl, rfl, rfl⟩))
theorem od_gt : OpD X (rI0 fun i j => .bl (decide (j < i))) gtD := od_int0 (gd := fun i j => .bool (decide (j < i))) rfl (fun i j _ _ => .bl _) (by intro a b; cases a <;> first | exact .inr rfl | (cases b <;> first | exact .inr rfl | exact .inl ⟨_, _, rfl, rfl, rfl⟩))
theorem od_ge : OpD X (rI0 fun i j => .bl (decide (j ≤ i))) geD := od_int0 (gd := fun i j => .bool (decide (j ≤ i))) rfl (fun i j _ _ => .bl _) (by intro a b; cases a <;> first | exact .inr rfl | (cases b <;> first | exact .inr rfl | exact .inl ⟨_, _, rfl, rfl, rfl⟩))
theorem od_mul : OpD X (rI CMulW fun i j => .int (i * j)) mulD := od_int (gd := fun i j => .int (i * j)) rfl (fun i j _ _ => .int _) (by
  intro a b
  cases a <;> first | exact .inr rfl | (cases b <;> first | exact .inr rfl | (rename_i i j; by_cases h : mulOk i j = true; exact .inl ⟨_, _, rfl, rfl, .inr ⟨(by unfold mulOk at h; have h' := of_decide_eq_true h; exact h'), by simp only [mulD, h, if_true]⟩⟩; exact .inr (by simp only [mulD, h]; rfl))))
def CDivZ (_ j : Int) : Prop := j ≠ 0 ∧ j.natAbs.log2 < 9000
theorem op_fdivZ : OpR X (binaryOp .FloorDiv) (rI CDivZ fun i j => .int (i.fdiv j)) := opI fun i j _ _ _ _ _ hc q => floordiv_int hc.1 q (.inl (PyProof.noPylong_of_log2 hc.2))
theorem od_fdiv : OpD X (rI CDivZ fun i j => .int (i.fdiv j)) fdivD := od_int (gd := fun i j => .int (i.fdiv j)) rfl (fun i j _ _ => .int _) (by
  intro a b
  cases a <;> first | exact .inr rfl | (cases b <;> first | exact .inr rfl | (rename_i i j; by_cases h : divOk j = true; exact .inl ⟨_, _, rfl, rfl, .inr ⟨(by unfold divOk at h; rw [Bool.and_eq_true] at h; exact ⟨of_decide_eq_true h.1, of_decide_eq_true h.2⟩), by simp only [fdivD, h, if_true]⟩⟩; exact .inr (by simp only [fdivD, h]; rfl))))
theorem od_mod : OpD X (rI (fun _ j => j ≠ 0) fun i j => .int (i.fmod j)) modD := od_int (gd := fun i j => .int (i.fmod j)) rfl (fun i j _ _ => .int _) (by
  intro a b
  cases a <;> first | exact .inr rfl | (cases b <;> first | exact .inr rfl | (rename_i i j; by_cases h : decide (j ≠ 0) = true; exact .inl ⟨_, _, rfl, rfl, .inr ⟨of_decide_eq_true h, by simp only [modD, h, if_true]⟩⟩; exact .inr (by simp only [modD, h]; rfl))))
theorem od_pow : OpD X (rI CPow fun i j => .int (i ^ j.toNat)) powD := od_int (gd := fun i j => .int (i ^ j.toNat)) rfl (fun i j _ _ => .int _) (by
  intro a b
  cases a <;> first | exact .inr rfl | (cases b <;> first | exact .inr rfl | (rename_i i j; by_cases h : decide (0 ≤ j ∧ j ≤ 1000000 ∧ i.natAbs < 18446744073709551616) = true; exact .inl ⟨_, _, rfl, rfl, .inr ⟨(by have := of_decide_eq_true h; exact ⟨this.1, this.2.1, by have := this.2.2; omega⟩), by simp only [powD, h, if_true]⟩⟩; exact .inr (by simp only [powD, h]; rfl))))
theorem ud_neg : UnD X (rU fun i => .int (-i)) negD := by
  intro a x G H Wx Q hs ra q
  unfold negD at q
  split at q
  · cases ra; exact ⟨_, rfl, q.done hs (.int _)⟩
  · exact q.elim
theorem okD_can {d : D} (h : okD d = true) : d.canLay0 = true := by
  unfold okD SeqAt.shaped at h
  rw [Bool.and_eq_true] at h
  exact h.1
theorem od_eq : OpD X (rEqD X.K) eqD := by
  intro a b x y G H Wx Q hs ra rb q
  unfold eqD at q
  split at q
  · rename_i h
    rw [Bool.and_eq_true] at h
    exact ⟨a, b, Rp.dp _ _ (ra.up hs) (okD_can h.1), Rp.dp _ _ (rb.up hs) (okD_can h.2), h.1, h.2, q.done hs (.bl _)⟩
  · exact q.elim
theorem od_ne : OpD X (rNeD X.K) neD := by
  intro a b x y G H Wx Q hs ra rb q
  unfold neD at q
  split at q
  · rename_i h
    rw [Bool.and_eq_true] at h
    exact ⟨a, b, Rp.dp _ _ (ra.up hs) (okD_can h.1), Rp.dp _ _ (rb.up hs) (okD_can h.2), h.1, h.2, q.done hs (.bl _)⟩
  · exact q.elim
def rLtAll (K : PySem.W.Frag) : R2 := fun x y H Q => (rI0 fun i j => .bl (decide (i < j))) x y H Q ∨ ((fun x y H Q => ∃ i j, x = .str i ∧ y = .str j ∧ Q (.bl (decide (i.cps.toList < j.cps.toList))) H) x y H Q ∨ rLtT K x y H Q)
theorem or_lt (hu : X.A.units < cLine) : OpR X (compareOp .Lt) (rLtAll X.K) := op_lt.or (op_lt_str.or (op_ltT hu))
theorem od_lt : OpD X (rLtAll X.K) ltD := by
  intro a b x y G H Wx Q hs ra rb q
  unfold ltD at q
  split at q
  · cases ra; cases rb
    exact .inl ⟨_, _, rfl, rfl, q.done hs (.bl _)⟩
  · cases ra; cases rb
    exact .inr (.inl ⟨_, _, rfl, rfl, q.done hs (.bl _)⟩)
  · split at q
    · rename_i e1 e2
      obtain ⟨l, xs, rfl, h1, g1, p1⟩ := ra.seqT hs
      obtain ⟨l2, ys, rfl, h2, g2, p2⟩ := rb.seqT hs
      rw [intsOf_some e1] at p1
      rw [intsOf_some e2] at p2
      rw [p1.of_ints] at h1
      rw [p2.of_ints] at h2
      exact .inr (.inr ⟨_, _, _, _, rfl, rfl, h1, h2, q.done hs (.bl _)⟩)
    · exact q.elim
  · exact q.elim
theorem od_isN : OpD X (fun x y H Q => y = .non ∧ Q (.bl (decide (x = .non))) H) isND := by
  intro a b x y G H Wx Q hs ra rb q
  unfold isND at q
  split at q
  · cases ra; cases rb; exact ⟨rfl, q.done hs (.bl _)⟩
  · rename_i hn
    cases rb
    refine ⟨rfl, ?_⟩
    rw [decide_eq_false (fun e => by subst e; cases ra; exact hn rfl)]
    exact q.done hs (.bl _)
  · exact q.elim
theorem od_notN : OpD X (fun x y H Q => y = .non ∧ Q (.bl (!decide (x = .non))) H) notND := by
  intro a b x y G H Wx Q hs ra rb q
  unfold notND at q
  split at q
  · cases ra; cases rb; exact ⟨rfl, q.done hs (.bl _)⟩
  · rename_i hn
    cases rb
    refine ⟨rfl, ?_⟩
    rw [decide_eq_false (fun e => by subst e; cases ra; exact hn rfl)]
    exact q.done hs (.bl _)
  · exact q.elim
def rInAll (K : PySem.W.Frag) : R2 := fun x y H Q => rInD K x y H Q ∨ (fun x y H Q => ∃ i j, x = .str i ∧ y = .str j ∧ Q (.bl (!(Builtin.Str.occurrences j i 0 j.length 1).isEmpty)) H) x y H Q
def rNotInAll (K : PySem.W.Frag) : R2 := fun x y H Q => rNotInD K x y H Q ∨ (fun x y H Q => ∃ i j, x = .str i ∧ y = .str j ∧ Q (.bl (!(!(Builtin.Str.occurrences j i 0 j.length 1).isEmpty))) H) x y H Q
theorem or_in (hu : X.A.units + 65 < cLine) : OpR X (compareOp .In) (rInAll X.K) := (op_inD hu).or op_in_str
theorem or_notIn (hu : X.A.units + 65 < cLine) : OpR X (compareOp .NotIn) (rNotInAll X.K) := (op_notInD hu).or op_notin_str
theorem od_in : OpD X (rInAll X.K) inD := by
  intro a b x y G H Wx Q hs ra rb q
  unfold inD at q
  split at q
  · split at q
    · rename_i h
      rw [Bool.and_eq_true] at h
      exact .inl ⟨_, _, Rp.dp _ _ (ra.up hs) (okD_can h.1), Rp.dp _ _ (rb.up hs) (okD_can h.2), h.1, h.2, q.done hs (.bl _)⟩
    · exact q.elim
  · split at q
    · cases ra; cases rb
      exact .inr ⟨_, _, rfl, rfl, q.done hs (.bl _)⟩
    · exact q.elim
  · exact q.elim
theorem od_notIn : OpD X (rNotInAll X.K) notInD := by
  intro a b x y G H Wx Q hs ra rb q
  unfold notInD at q
  split at q
  · split at q
    · rename_i h
      rw [Bool.and_eq_true] at h
      exact .inl ⟨_, _, Rp.dp _ _ (ra.up hs) (okD_can h.1), Rp.dp _ _ (rb.up hs) (okD_can h.2), h.1, h.2, q.done hs (.bl _)⟩
    · exact q.elim
  · split at q
    · cases ra; cases rb
      exact .inr ⟨_, _, rfl, rfl, q.done hs (.bl _)⟩
    · exact q.elim
  · exact q.elim
/-! ### items -/
theorem od_ix : OpD X (rIx X.K) ixD := by
  intro a b x y G H Wx Q hs ra rb q
  unfold ixD at q
  split at q
  · rename_i ds i
    cases rb
    obtain ⟨l, xs, rfl, h1, g1, p1⟩ := ra.seqL hs
    cases e : atD ds i with
    | none => rw [e] at q; exact q.elim
    | some d =>
      rw [e] at q
      obtain ⟨j, hj, hd⟩ := atD_at e
      obtain ⟨v, hv, rv⟩ := p1.get hd
      refine .inl ⟨l, xs, i, v, rfl, rfl, SqL.of h1, ?_, q.done hs rv⟩
      unfold atI
      rw [p1.length, hj]
      exact hv
  · rename_i ds i
    cases rb
    obtain ⟨l, xs, rfl, h1, g1, p1⟩ := ra.seqT hs
    cases e : atD ds i with
    | none => rw [e] at q; exact q.elim
    | some d =>
      rw [e] at q
      obtain ⟨j, hj, hd⟩ := atD_at e
      obtain ⟨v, hv, rv⟩ := p1.get hd
      refine .inr (.inl ⟨l, xs, i, v, rfl, rfl, h1, ?_, q.done hs rv⟩)
      unfold atI
      rw [p1.length, hj]
      exact hv
  · rename_i z i
    split at q
    · rename_i hl
      cases ra; cases rb
      cases e : atD z.cps.toList i with
      | none => rw [e] at q; exact q.elim
      | some c =>
        rw [e] at q
        obtain ⟨j, hj, hd⟩ := atD_at e
        refine .inr (.inr ⟨z, i, c, rfl, rfl, lineOk_le hl, ?_, q.done hs (.str _)⟩)
        unfold atI
        rw [hj]
        exact hd
    · exact q.elim
  · exact q.elim
variable {W : WX}
theorem d_ix {a b : Expr} {pos : Pos} {f g : EnvS → R D} (ha : PD X W a f) (hb : PD X W b g) (hp : PlainIx b := by intro _ _; rfl) : PD X W (.Subscript a b pos) (bin2 ixD f g) := (pe_ix ix_seq ha hb hp).wk fun _ _ _ h => tOpD od_ix h
end
end TD

/-! TdSeq: argument lists, displays, lists that are new or one's own, slices, calls of built-ins and of defs. -/
namespace TD
open PySem PySem.Spec PyProof.Rows L2
/-- what a reading of a result must bear -/
structure Fin {β : Type} (Wx : Str → Hp → Prop) (P : R β → Hp → Hp → Prop) : Prop where
  later : ∀ r G H G1 H1, P r G H → Ext G H G1 H1 → P r G1 H1
  ex : ∀ x G H, P (.ex x) G H → ∀ G' H', Ext G H G' H' → Wx x H'
  no : ∀ G H, P .no G H → False
theorem Post.fin {α υ : Type} {rp : Hp → υ → α → Prop} {Wx : Str → Hp → Prop} {Q : υ → Hp → Prop} : Fin Wx (fun r G H => Post rp Wx G H r Q) := ⟨fun _ _ _ _ _ h e => Post.later h e, fun _ _ _ h => h, fun _ _ h => h⟩
/-- a new list, not yet settled -/
def PostN (K : PySem.W.Frag) (Wx : Str → Hp → Prop) (G H : Hp) (r : R (List D)) (Q : VK) : Prop :=
  match r with
  | .ok ds => ∀ q xs G' H', Ext G H G' H' → H q = none → G' q = none → H' q = some (.lst xs) → RpAll K G' xs ds → Q (.ref q) H'
  | .ex x => ∀ G' H', Ext G H G' H' → Wx x H'
  | .no => False
/-- a list that may be read -/
def PostL (K : PySem.W.Frag) (Wx : Str → Hp → Prop) (G H : Hp) (r : R (List D)) (Q : VK) : Prop :=
  match r with
  | .ok ds => ∀ q xs G' H', Ext G H G' H' → H' q = some (.lst xs) → RpAll K G' xs ds → Q (.ref q) H'
  | .ex x => ∀ G' H', Ext G H G' H' → Wx x H'
  | .no => False
theorem PostN.fin {K : PySem.W.Frag} {Wx : Str → Hp → Prop} {Q : VK} : Fin Wx (fun r G H => PostN K Wx G H r Q) := by
  refine ⟨fun r G H G1 H1 h e => ?_, fun _ _ _ h => h, fun _ _ h => h⟩
  cases r with
  | ok ds => exact fun q xs G' H' e' h1 => h q xs G' H' (e.trans e') (e.hh.free h1)
  | ex x => exact fun G' H' e' => h G' H' (e.trans e')
  | no => exact h
theorem PostL.fin {K : PySem.W.Frag} {Wx : Str → Hp → Prop} {Q : VK} : Fin Wx (fun r G H => PostL K Wx G H r Q) := by
  refine ⟨fun r G H G1 H1 h e => ?_, fun _ _ _ h => h, fun _ _ h => h⟩
  cases r with
  | ok ds => exact fun q xs G' H' e' => h q xs G' H' (e.trans e')
  | ex x => exact fun G' H' e' => h G' H' (e.trans e')
  | no => exact h
def tN (K : PySem.W.Frag) (mg : Str → Option Value) (W : WX) (f : EnvS → R (List D)) : TE := fun σ H Q => ∃ G ρ, Same G H ∧ EnvE K G H σ ρ ∧ PostN K (Wxo mg W σ) G H (f ρ) Q
def tL (K : PySem.W.Frag) (mg : Str → Option Value) (W : WX) (f : EnvS → R (List D)) : TE := fun σ H Q => ∃ G ρ, Same G H ∧ EnvE K G H σ ρ ∧ PostL K (Wxo mg W σ) G H (f ρ) Q
abbrev PDN (X : Cx) (W : WX) (e : Expr) (f : EnvS → R (List D)) : Prop := PE X e (tN X.K X.mg W f)
abbrev PDL (X : Cx) (W : WX) (e : Expr) (f : EnvS → R (List D)) : Prop := PE X e (tL X.K X.mg W f)
section
variable {K : PySem.W.Frag} {mg : Str → Option Value} {W : WX} {σ : L2.St} {ρ : EnvS} {G H : Hp}
theorem seqP {α β υ : Type} {rp : Hp → υ → α → Prop} {P : R β → Hp → Hp → Prop} {f : EnvS → R α} {k : α → R β} {Q1 : υ → Hp → Prop} (F : Fin (Wxo mg W σ) P)
    (h : P ((f ρ).bind k) G H) (hs : Same G H) (he : EnvE K G H σ ρ)
    (q : ∀ a v G1 H1, f ρ = .ok a → Ext G H G1 H1 → rp G1 v a → EnvE K G1 H1 σ ρ → P (k a) G1 H1 → Q1 v H1) : tD K mg W rp f σ H Q1 := by
  refine ⟨G, ρ, hs, he, ?_⟩
  cases e : f ρ with
  | ok a =>
    rw [e] at h
    intro v G1 H1 e1 r1
    exact q a v G1 H1 e e1 r1 (he.up e1) (F.later _ _ _ _ _ h e1)
  | ex x =>
    rw [e] at h
    exact F.ex x G H h
  | no =>
    rw [e] at h
    exact (F.no G H h).elim
theorem seqL {β : Type} {P : R β → Hp → Hp → Prop} {f : EnvS → R (List D)} {k : List D → R β} {Q1 : VK} (F : Fin (Wxo mg W σ) P)
    (h : P ((f ρ).bind k) G H) (hs : Same G H) (he : EnvE K G H σ ρ)
    (q : ∀ ds a xs G1 H1, f ρ = .ok ds → Ext G H G1 H1 → H1 a = some (.lst xs) → RpAll K G1 xs ds → EnvE K G1 H1 σ ρ → P (k ds) G1 H1 → Q1 (.ref a) H1) : tL K mg W f σ H Q1 := by
  refine ⟨G, ρ, hs, he, ?_⟩
  cases e : f ρ with
  | ok a =>
    rw [e] at h
    intro v xs G1 H1 e1 r1 r2
    exact q a v xs G1 H1 e e1 r1 r2 (he.up e1) (F.later _ _ _ _ _ h e1)
  | ex x =>
    rw [e] at h
    exact F.ex x G H h
  | no =>
    rw [e] at h
    exact (F.no G H h).elim
end
theorem R.bind_assoc {α β γ : Type} (r : R α) (f : α → R β) (g : β → R γ) : (r.bind f).bind g = r.bind fun a => (f a).bind g := by cases r <;> rfl
def lstF (f : EnvS → R (List D)) : EnvS → R D := fun ρ => (f ρ).bind fun ds => .ok (.list ds)
def asLF (f : EnvS → R D) : EnvS → R (List D) := fun ρ => (f ρ).bind fun d => match d with
  | .list ds => .ok ds
  | _ => .no
section
variable {X : Cx} {W : WX}
/-- a new list is settled -/
theorem tN_of {f : EnvS → R (List D)} {σ : L2.St} {H : Hp} {Q : VK} (h : tD X.K X.mg W (rpE X.K) (lstF f) σ H Q) : tN X.K X.mg W f σ H Q := by
  obtain ⟨G, ρ, hs, he, q⟩ := h
  unfold lstF at q
  refine ⟨G, ρ, hs, he, ?_⟩
  cases e : f ρ with
  | ok ds =>
    rw [e] at q
    intro a xs G1 H1 e1 n1 n2 h1 r1
    refine q (.ref a) (upd G1 a (.lst xs)) H1 ⟨fun b o hb => ?_, e1.hh, e1.gg.trans (same_upd n2), fun p h1 h2 => ?_⟩ (.lst upd_same (r1.up (same_upd n2)))
    · by_cases hab : b = a
      · subst hab; rw [upd_same] at hb; cases hb; exact h1
      · rw [upd_ne hab] at hb; exact e1.sub _ _ hb
    · by_cases hpa : p = a
      · subst hpa; exact n1
      · rw [upd_ne hpa] at h2; exact e1.fr p h1 h2
  | ex x => rw [e] at q; exact q
  | no => rw [e] at q; exact q
theorem d_new {e : Expr} {f : EnvS → R (List D)} (h : PDN X W e f) : PD X W e (lstF f) := L2.PE.wk h fun σ H Q q => tN_of q
theorem l_new {e : Expr} {f : EnvS → R (List D)} (h : PDN X W e f) : PDL X W e f := L2.PE.wk h fun σ H Q ⟨G, ρ, hs, he, q⟩ => by
  refine ⟨G, ρ, hs, he, ?_⟩
  cases e : f ρ with
  | ok ds => rw [e] at q; exact fun a xs G1 H1 e1 _ _ h1 r1 => q a xs G1 H1 e1 h1 r1
  | ex x => rw [e] at q; exact q
  | no => rw [e] at q; exact q
theorem l_of {e : Expr} {f : EnvS → R D} (h : PD X W e f) : PDL X W e (asLF f) := L2.PE.wk h fun σ H Q ⟨G, ρ, hs, he, q⟩ => by
  unfold asLF at q
  refine seqP PostL.fin q hs he fun a v G1 H1 _ e1 r1 he1 q1 => ?_
  cases a with
  | list ds =>
    obtain ⟨a, xs, rfl, h1, g1, p1⟩ := r1.seqL e1.sub
    exact q1 a xs G1 H1 (.refl e1.sub) h1 p1
  | _ => exact q1.elim
def ownD (i : Nat) : EnvS → R (List D) := fun ρ => match ρ[i]? with
  | some (some (.ow ds)) => .ok ds
  | _ => .no
theorem l_own (i : Nat) {x : Str} {pos : Pos} (hN : X.N[i]? = some x := by rfl) (hv : Vis X.env.scope x := by first | exact Or.inl rfl | exact Or.inr (Or.inl rfl) | exact Or.inr (Or.inr rfl)) (hd : (x == ("__debug__" : Str)) = false := by decide)
    (hcd : (x == ("__classdict__" : Str)) = false := by decide) : PDL X W (.Name x pos) (ownD i) := (pe_var hN hv hd hcd).wk fun σ H Q ⟨G, ρ, hs, he, q⟩ => by
  unfold ownD at q
  cases e : ρ[i]? with
  | none => rw [e] at q; exact q.elim
  | some o =>
    cases o with
    | none => rw [e] at q; exact q.elim
    | some d =>
      cases d with
      | pu ds => rw [e] at q; exact q.elim
      | ow d =>
        rw [e] at q
        obtain ⟨p, vs, h1, h2, h3, h4⟩ := he.ow i d e
        exact ⟨_, h1, q p vs G H (.refl hs) h2 h4⟩

/-! ### argument lists, displays -/
def nilA : EnvS → R (List D) := fun _ => .ok []
def consA (f : EnvS → R D) (g : EnvS → R (List D)) : EnvS → R (List D) := fun ρ => (f ρ).bind fun a => (g ρ).bind fun as => .ok (a :: as)
theorem a_nil : PAD X W [] nilA := pa_nil.wk fun σ H Q ⟨G, ρ, hs, he, q⟩ => Post.done (rp := rpL X.K) q hs .nil
theorem a_cons {e : Expr} {es : List Expr} {f : EnvS → R D} {g : EnvS → R (List D)} (ha : PD X W e f) (hr : PAD X W es g) (hs : starEach (e :: es) X.env = (false, eval e X.env) :: starEach es X.env := by rfl) : PAD X W (e :: es) (consA f g) :=
  (pa_cons ha hr hs).wk fun σ H Q ⟨G, ρ, hs, he, q⟩ => Post.seq q hs he fun a v G1 H1 _ e1 r1 he1 q1 => Post.seq q1 e1.sub he1 fun as vs G2 H2 _ e2 r2 he2 q2 => Post.done (rp := rpL X.K) q2 e2.sub (.cons (Rp.up r1 e2.gg) r2)
def tupD (g : EnvS → R (List D)) : EnvS → R D := fun ρ => (g ρ).bind fun as => if lineOk as.length then .ok (.tuple as) else .no
def newD (g : EnvS → R (List D)) : EnvS → R (List D) := fun ρ => (g ρ).bind fun as => if lineOk as.length then .ok as else .no
theorem d_tup {es : List Expr} {k : Nat} {pos : Pos} {g : EnvS → R (List D)} (h : PAD X W es g) : PD X W (.Tuple es k pos) (tupD g) := (pe_tup h).wk fun σ H Q ⟨G, ρ, hs, he, q⟩ =>
  Post.seq q hs he fun as vs G1 H1 _ e1 r1 he1 q1 => by
    split at q1
    · rename_i hl
      refine ⟨by rw [RpAll.length r1]; exact lineOk_le hl, fun p hp => ?_⟩
      have e := Ext.new (o := .tup vs) e1.sub hp
      exact q1 _ _ _ e (.tup (SqT.of upd_same) (RpAll.up r1 e.gg))
    · exact q1.elim
theorem n_lst {es : List Expr} {pos : Pos} {g : EnvS → R (List D)} (h : PAD X W es g) : PDN X W (.List es pos) (newD g) := (pe_lst h).wk fun σ H Q ⟨G, ρ, hs, he, q⟩ =>
  seqP PostN.fin q hs he fun as vs G1 H1 _ e1 r1 he1 q1 => by
    split at q1
    · rename_i hl
      refine ⟨by rw [RpAll.length r1]; exact lineOk_le hl, fun p hp => ?_⟩
      exact q1 p vs G1 _ ⟨e1.sub.trans (same_upd hp), same_upd hp, .refl _, fun p h1 h2 => absurd h1 h2⟩ hp (e1.sub.free hp) upd_same r1
    · exact q1.elim

/-! ### slices -/
abbrev POD (X : Cx) (W : WX) (e : Option Expr) (f : EnvS → R (Option Int)) : Prop := PO X e (tD X.K X.mg W (fun _ a b => a = b) f)
theorem _root_.L2.PO.wk {X : Cx} {e : Option Expr} {t t' : TO} (h : PO X e t) (w : ∀ σ H Q, t' σ H Q → t σ H Q) : PO X e t' := ⟨fun pins s σ H Q I q => h.run pins s σ H Q I (w σ H Q q)⟩
def noP : EnvS → R (Option Int) := fun _ => .ok none
def someP (f : EnvS → R D) : EnvS → R (Option Int) := fun ρ => (f ρ).bind fun d => match d with
  | .int i => .ok (some i)
  | _ => .no
theorem o_none : POD X W none noP := po_none.wk fun σ H Q ⟨G, ρ, hs, he, q⟩ => Post.done (v := none) q hs rfl
theorem o_some {e : Expr} {f : EnvS → R D} (h : PD X W e f) : POD X W (some e) (someP f) := (po_some h).wk fun σ H Q ⟨G, ρ, hs, he, q⟩ =>
  Post.seq q hs he fun a v G1 H1 _ e1 r1 he1 q1 => by
    cases a with
    | int i => cases r1; exact ⟨i, rfl, Post.done (v := some i) q1 e1.sub rfl⟩
    | _ => exact q1.elim
def slcD (f : EnvS → R D) (g h : EnvS → R (Option Int)) : EnvS → R D := fun ρ => (f ρ).bind fun d => (g ρ).bind fun lo => (h ρ).bind fun hi => match d with
  | .tuple ds => .ok (.tuple (cutD ds lo hi))
  | _ => .no
def slcL (f : EnvS → R (List D)) (g h : EnvS → R (Option Int)) : EnvS → R (List D) := fun ρ => (f ρ).bind fun ds => (g ρ).bind fun lo => (h ρ).bind fun hi => .ok (cutD ds lo hi)
theorem RpAll.cut {K : PySem.W.Frag} {H : Hp} {xs : List V} {ds : List D} (r : RpAll K H xs ds) (lo hi : Option Int) : RpAll K H (cutV xs lo hi) (cutD ds lo hi) := by
  unfold cutV cutD
  rw [r.length]
  exact (r.drop _).take _
theorem cut_all {α : Type} {xs : List α} {lo hi : Option Int} (h : HT.sIx xs.length 0 lo = 0 ∧ HT.sIx xs.length xs.length hi = xs.length) : cutD xs lo hi = xs := by
  unfold cutD
  rw [h.1, h.2, List.drop_zero, Nat.sub_zero, List.take_length]
/-- t[lo:hi] of a tuple -/
theorem d_slcT {e : Expr} {lo hi : Option Expr} {p2 pos : Pos} {f : EnvS → R D} {g h : EnvS → R (Option Int)} (he : PD X W e f) (hl : POD X W lo g) (hu : POD X W hi h) : PD X W (.Subscript e (.Slice lo hi none p2) pos) (slcD f g h) :=
  (pe_slice sl_tupA he hl hu).wk fun σ H Q ⟨G, ρ, hs, he, q⟩ => by
    unfold slcD at q
    refine Post.seq q hs he fun a v G1 H1 _ e1 r1 he1 q1 => ?_
    refine Post.seq q1 e1.sub he1 fun lo lo' G2 H2 _ e2 r2 he2 q2 => ?_
    refine Post.seq q2 e2.sub he2 fun hi hi' G3 H3 _ e3 r3 he3 q3 => ?_
    subst r2 r3
    cases a with
    | tuple ds =>
      obtain ⟨l, xs, rfl, h1, g1, p1⟩ := Rp.seqT (Rp.up r1 (e2.gg.trans e3.gg)) e3.sub
      refine ⟨l, xs, rfl, h1, fun hw => ?_, fun _ p hp => ?_⟩
      · rw [p1.length] at hw
        have q3 : Post (rpE X.K) (Wxo X.mg W σ) G3 H3 (.ok (.tuple (cutD ds lo' hi'))) Q := q3
        rw [cut_all hw] at q3
        exact q3.done e3.sub (.tup g1 p1)
      · have e := Ext.new (o := .tup (cutV xs lo' hi')) e3.sub hp
        exact q3 _ _ _ e (.tup (SqT.of upd_same) ((p1.cut lo' hi').up e.gg))
    | _ => exact q3.elim
theorem Ext.newH {G H : Hp} {p : Addr} {o : HO} (h : Same G H) (hp : H p = none) : Ext G H G (upd H p o) := ⟨h.trans (same_upd hp), same_upd hp, .refl _, fun _ h1 h2 => absurd h1 h2⟩
theorem n_slc {e : Expr} {lo hi : Option Expr} {p2 pos : Pos} {f : EnvS → R (List D)} {g h : EnvS → R (Option Int)} (he : PDL X W e f) (hl : POD X W lo g) (hu : POD X W hi h) : PDN X W (.Subscript e (.Slice lo hi none p2) pos) (slcL f g h) :=
  (pe_slice sl_list he hl hu).wk fun σ H Q ⟨G, ρ, hs, he, q⟩ => by
    unfold slcL at q
    refine seqL PostN.fin q hs he fun ds a xs G1 H1 _ e1 h1 r1 he1 q1 => ?_
    refine seqP PostN.fin q1 e1.sub he1 fun lo lo' G2 H2 _ e2 r2 he2 q2 => ?_
    refine seqP PostN.fin q2 e2.sub he2 fun hi hi' G3 H3 _ e3 r3 he3 q3 => ?_
    subst r2 r3
    refine ⟨a, xs, rfl, SqL.of ((e2.hh.trans e3.hh) _ _ h1), fun p hp => ?_⟩
    exact q3 p _ G3 _ (Ext.newH e3.sub hp) hp (e3.sub.free hp) upd_same ((r1.up (e2.gg.trans e3.gg)).cut _ _)
/-- script[:63] and its like -/
def asSF (f : EnvS → R D) : EnvS → R (List D) := fun ρ => (f ρ).bind fun d => match d with
  | PyData.dict [(PyData.none, PyData.list ds)] => .ok ds
  | _ => .no
theorem scr_inv {K : PySem.W.Frag} {G : Hp} {v : V} {ds : List D} (h : Rp K G v (.dict [(.none, .list ds)])) : ∃ (a : Addr) (ns : List Int), v = .ref a ∧ ds = ns.map PyData.int ∧ SqL K G a (ns.map V.int) := by
  generalize hd : (PyData.dict [(.none, .list ds)] : D) = d at h
  cases h with
  | scr h1 =>
    unfold scrD at hd
    injection hd with e1
    injection e1 with e2
    injection e2 with e3 e4
    injection e4 with e5
    exact ⟨_, _, rfl, e5, h1⟩
  | _ => cases hd
theorem n_slcS {e : Expr} {lo hi : Option Expr} {p2 pos : Pos} {f : EnvS → R D} {g h : EnvS → R (Option Int)} (he : PD X W e f) (hl : POD X W lo g) (hu : POD X W hi h) : PDN X W (.Subscript e (.Slice lo hi none p2) pos) (slcL (asSF f) g h) :=
  (pe_slice sl_list he hl hu).wk fun σ H Q ⟨G, ρ, hs, he, q⟩ => by
    unfold slcL asSF at q
    rw [R.bind_assoc] at q
    refine seqP PostN.fin q hs he fun a v G1 H1 _ e1 r1 he1 q1 => ?_
    split at q1
    · rename_i ds
      refine seqP PostN.fin q1 e1.sub he1 fun lo lo' G2 H2 _ e2 r2 he2 q2 => ?_
      refine seqP PostN.fin q2 e2.sub he2 fun hi hi' G3 H3 _ e3 r3 he3 q3 => ?_
      subst r2 r3
      obtain ⟨a, ns, rfl, rfl, h1⟩ := scr_inv r1
      refine ⟨a, _, rfl, ((e2.gg.trans e3.gg).trans e3.sub).seq h1, fun p hp => ?_⟩
      exact q3 p _ G3 _ (Ext.newH e3.sub hp) hp (e3.sub.free hp) upd_same ((RpAll.ints ns).cut _ _)
    · exact q1.elim

/-! ### list + list of lists that may be read; items -/
def catL (f g : EnvS → R (List D)) : EnvS → R (List D) := fun ρ => (f ρ).bind fun a => (g ρ).bind fun b => if lineOk (a.length + b.length) then .ok (a ++ b) else .no
theorem n_cat {a b : Expr} {pos : Pos} {f g : EnvS → R (List D)} (ha : PDL X W a f) (hb : PDL X W b g) : PDN X W (.BinOp a .Add b pos) (catL f g) := (pe_op op_cat ha hb).wk fun σ H Q ⟨G, ρ, hs, he, q⟩ => by
  unfold catL at q
  refine seqL PostN.fin q hs he fun ds a xs G1 H1 _ e1 h1 r1 he1 q1 => ?_
  refine seqL PostN.fin q1 e1.sub he1 fun es b ys G2 H2 _ e2 h2 r2 he2 q2 => ?_
  split at q2
  · rename_i hl
    refine ⟨a, b, xs, ys, rfl, rfl, e2.hh _ _ h1, h2, by rw [r1.length, r2.length]; exact lineOk_le hl, fun p hp => ?_⟩
    exact q2 p _ G2 _ (Ext.newH e2.sub hp) hp (e2.sub.free hp) upd_same ((r1.up e2.gg).append r2)
  · exact q2.elim
def ixL (f : EnvS → R (List D)) (g : EnvS → R D) : EnvS → R D := fun ρ => (f ρ).bind fun ds => (g ρ).bind fun i => ixD (.list ds) i
theorem d_ixL {a b : Expr} {pos : Pos} {f : EnvS → R (List D)} {g : EnvS → R D} (ha : PDL X W a f) (hb : PD X W b g) (hp : PlainIx b := by intro _ _; rfl) : PD X W (.Subscript a b pos) (ixL f g) := (pe_ix ix_list ha hb hp).wk fun σ H Q ⟨G, ρ, hs, he, q⟩ => by
  unfold ixL at q
  refine seqL Post.fin q hs he fun ds l xs G1 H1 _ e1 h1 r1 he1 q1 => ?_
  refine Post.seq q1 e1.sub he1 fun i v G2 H2 _ e2 r2 he2 q2 => ?_
  cases i with
  | int i =>
    cases r2
    unfold ixD at q2
    cases e : atD ds i with
    | none => simp only [e] at q2; exact q2.elim
    | some d =>
      simp only [e] at q2
      obtain ⟨j, hj, hd⟩ := atD_at e
      obtain ⟨v, hv, rv⟩ := r1.get hd
      refine ⟨l, xs, i, v, rfl, rfl, SqL.of (e2.hh _ _ h1), ?_, q2.done e2.sub (rv.up e2.gg)⟩
      unfold atI
      rw [r1.length, hj]
      exact hv
  | _ => exact q2.elim
/-! ### calls of built-ins -/
/-- a call's reading serves a function of data -/
def CallD (X : Cx) (r : List V → Hp → VK → Prop) (k : List D → R D) : Prop := ∀ (ds : List D) (xs : List V) (G H : Hp) (Wx : Str → Hp → Prop) (Q : VK), Same G H → RpAll X.K G xs ds → Post (rpE X.K) Wx G H (k ds) Q → r xs H Q
/-- of one list that may be read -/
def LstD (X : Cx) (r : List V → Hp → VK → Prop) (k : List D → R D) : Prop := ∀ (ds : List D) (a : Addr) (xs : List V) (G H : Hp) (Wx : Str → Hp → Prop) (Q : VK), Same G H → H a = some (.lst xs) → RpAll X.K G xs ds → Post (rpE X.K) Wx G H (k ds) Q → r [.ref a] H Q
def LstN (X : Cx) (r : List V → Hp → VK → Prop) (k : List D → R (List D)) : Prop := ∀ (ds : List D) (a : Addr) (xs : List V) (G H : Hp) (Wx : Str → Hp → Prop) (Q : VK), Same G H → H a = some (.lst xs) → RpAll X.K G xs ds → PostN X.K Wx G H (k ds) Q → r [.ref a] H Q
def callF (k : List D → R D) (g : EnvS → R (List D)) : EnvS → R D := fun ρ => (g ρ).bind k
variable {x : Str} {p pos : Pos} {e : Expr} {es : List Expr} {id T : String} {r : List V → Hp → VK → Prop}
theorem d_blt {k : List D → R D} {g : EnvS → R (List D)} (hc : CallR X (.builtin id) r) (hr : CallD X r k) (hm : X.mg x = none) (hv : bootBuiltins x = some (.builtin id)) (ha : PAD X W (e :: es) g) (hg : Gl X x := by rfl) (hn : x ≠ "__name__" := by decide) (hdb : (x == ("__debug__" : Str)) = false := by decide)
    (he : starEach (e :: es) X.env = (false, eval e X.env) :: starEach es X.env := by rfl) (hpl : (backTo pos (starEach es X.env)).any (·.1) = false := by rfl) : PD X W (.Call (.Name x p) (e :: es) [] pos) (callF k g) :=
  (pe_callB hc hg hm hv ha hn hdb he hpl).wk fun σ H Q ⟨G, ρ, hs, he, q⟩ => Post.seq q hs he fun as vs G1 H1 _ e1 r1 he1 q1 => hr as vs G1 H1 _ Q e1.sub r1 q1
theorem d_ty {k : List D → R D} {g : EnvS → R (List D)} (hc : CallR X (.type T) r) (hr : CallD X r k) (hm : X.mg x = none) (hv : bootBuiltins x = some (.type T)) (ha : PAD X W (e :: es) g) (hg : Gl X x := by rfl) (hn : x ≠ "__name__" := by decide) (hdb : (x == ("__debug__" : Str)) = false := by decide)
    (he : starEach (e :: es) X.env = (false, eval e X.env) :: starEach es X.env := by rfl) (hpl : (backTo pos (starEach es X.env)).any (·.1) = false := by rfl) : PD X W (.Call (.Name x p) (e :: es) [] pos) (callF k g) :=
  (pe_callTy hc hg hm hv ha hn hdb he hpl).wk fun σ H Q ⟨G, ρ, hs, he, q⟩ => Post.seq q hs he fun as vs G1 H1 _ e1 r1 he1 q1 => hr as vs G1 H1 _ Q e1.sub r1 q1
theorem d_bltL {k : List D → R D} {g : EnvS → R (List D)} (hc : CallR X (.builtin id) r) (hr : LstD X r k) (hm : X.mg x = none) (hv : bootBuiltins x = some (.builtin id)) (ha : PDL X W e g) (hg : Gl X x := by rfl) (hn : x ≠ "__name__" := by decide) (hdb : (x == ("__debug__" : Str)) = false := by decide)
    (he : starEach [e] X.env = (false, eval e X.env) :: starEach [] X.env := by rfl) : PD X W (.Call (.Name x p) [e] [] pos) (callF k g) :=
  (pe_callB hc hg hm hv (pa_cons ha pa_nil he) hn hdb he rfl).wk fun σ H Q ⟨G, ρ, hs, he, q⟩ => seqL Post.fin q hs he fun ds a xs G1 H1 _ e1 h1 r1 he1 q1 => hr ds a xs G1 H1 _ Q e1.sub h1 r1 q1
theorem d_tyL {k : List D → R D} {g : EnvS → R (List D)} (hc : CallR X (.type T) r) (hr : LstD X r k) (hm : X.mg x = none) (hv : bootBuiltins x = some (.type T)) (ha : PDL X W e g) (hg : Gl X x := by rfl) (hn : x ≠ "__name__" := by decide) (hdb : (x == ("__debug__" : Str)) = false := by decide)
    (he : starEach [e] X.env = (false, eval e X.env) :: starEach [] X.env := by rfl) : PD X W (.Call (.Name x p) [e] [] pos) (callF k g) :=
  (pe_callTy hc hg hm hv (pa_cons ha pa_nil he) hn hdb he rfl).wk fun σ H Q ⟨G, ρ, hs, he, q⟩ => seqL Post.fin q hs he fun ds a xs G1 H1 _ e1 h1 r1 he1 q1 => hr ds a xs G1 H1 _ Q e1.sub h1 r1 q1
def callN (k : List D → R (List D)) (g : EnvS → R (List D)) : EnvS → R (List D) := fun ρ => (g ρ).bind k
theorem n_bltL {k : List D → R (List D)} {g : EnvS → R (List D)} (hc : CallR X (.builtin id) r) (hr : LstN X r k) (hm : X.mg x = none) (hv : bootBuiltins x = some (.builtin id)) (ha : PDL X W e g) (hg : Gl X x := by rfl) (hn : x ≠ "__name__" := by decide) (hdb : (x == ("__debug__" : Str)) = false := by decide)
    (he : starEach [e] X.env = (false, eval e X.env) :: starEach [] X.env := by rfl) : PDN X W (.Call (.Name x p) [e] [] pos) (callN k g) :=
  (pe_callB hc hg hm hv (pa_cons ha pa_nil he) hn hdb he rfl).wk fun σ H Q ⟨G, ρ, hs, he, q⟩ => seqL PostN.fin q hs he fun ds a xs G1 H1 _ e1 h1 r1 he1 q1 => hr ds a xs G1 H1 _ Q e1.sub h1 r1 q1
theorem n_tyL {k : List D → R (List D)} {g : EnvS → R (List D)} (hc : CallR X (.type T) r) (hr : LstN X r k) (hm : X.mg x = none) (hv : bootBuiltins x = some (.type T)) (ha : PDL X W e g) (hg : Gl X x := by rfl) (hn : x ≠ "__name__" := by decide) (hdb : (x == ("__debug__" : Str)) = false := by decide)
    (he : starEach [e] X.env = (false, eval e X.env) :: starEach [] X.env := by rfl) : PDN X W (.Call (.Name x p) [e] [] pos) (callN k g) :=
  (pe_callTy hc hg hm hv (pa_cons ha pa_nil he) hn hdb he rfl).wk fun σ H Q ⟨G, ρ, hs, he, q⟩ => seqL PostN.fin q hs he fun ds a xs G1 H1 _ e1 h1 r1 he1 q1 => hr ds a xs G1 H1 _ Q e1.sub h1 r1 q1
end
end TD

/-! TdStm: statements, loops, comprehensions, defs, over data. -/
namespace TD
open PySem PySem.Spec PyProof.Rows L2
/-! ### what a statement comes to -/
inductive Out where
  | nx (ρ : EnvS) | rt (d : D) | bk (ρ : EnvS) | ct (ρ : EnvS) | ex (x : Str) (ρ : EnvS) | no
def Out.seq : Out → (EnvS → Out) → Out
  | .nx ρ, k => k ρ
  | .rt d, _ => .rt d
  | .bk ρ, _ => .bk ρ
  | .ct ρ, _ => .ct ρ
  | .ex x ρ, _ => .ex x ρ
  | .no, _ => .no
def R.out {α : Type} : R α → EnvS → (α → Out) → Out
  | .ok a, _, k => k a
  | .ex x, ρ, _ => .ex x ρ
  | .no, _, _ => .no
section
variable {α : Type} {ρ : EnvS} {k : EnvS → Out} {j : α → Out}
@[simp] theorem Out.nx_seq : (Out.nx ρ).seq k = k ρ := rfl
@[simp] theorem Out.rt_seq {d : D} : (Out.rt d).seq k = .rt d := rfl
@[simp] theorem Out.bk_seq : (Out.bk ρ).seq k = .bk ρ := rfl
@[simp] theorem Out.ct_seq : (Out.ct ρ).seq k = .ct ρ := rfl
@[simp] theorem Out.ex_seq {x : Str} : (Out.ex x ρ).seq k = .ex x ρ := rfl
@[simp] theorem Out.no_seq : Out.no.seq k = .no := rfl
@[simp] theorem R.ok_out {a : α} : (R.ok a).out ρ j = j a := rfl
@[simp] theorem R.ex_out {x : Str} : (R.ex x : R α).out ρ j = .ex x ρ := rfl
@[simp] theorem R.no_out : (R.no : R α).out ρ j = .no := rfl
end
structure StOk (K : PySem.W.Frag) (G0 H0 G H : Hp) (σ : L2.St) (ρ : EnvS) : Prop where
  ext : Ext G0 H0 G H
  len : σ.length = ρ.length
  env : EnvE K G H σ ρ
  own : ∀ (i : Nat) (ds : List D) (p : Addr), ρ[i]? = some (some (.ow ds)) → σ[i]? = some (some (.ref p)) → H0 p = none
  inj : ∀ (i j : Nat) (ds es : List D) (p : Addr), i ≠ j → ρ[i]? = some (some (.ow ds)) → ρ[j]? = some (some (.ow es)) → σ[i]? = some (some (.ref p)) → σ[j]? ≠ some (some (.ref p))
theorem StOk.step {K : PySem.W.Frag} {G0 H0 G H G' H' : Hp} {σ : L2.St} {ρ : EnvS} (h : StOk K G0 H0 G H σ ρ) (e : Ext G H G' H') : StOk K G0 H0 G' H' σ ρ := ⟨h.ext.trans e, h.len, h.env.up e, h.own, h.inj⟩
/-- the places not in wr are as they were -/
def Fr (wr : List Nat) (σ : L2.St) (ρ : EnvS) (σ' : L2.St) (ρ' : EnvS) : Prop := ∀ i : Nat, i ∉ wr → σ'[i]? = σ[i]? ∧ ρ'[i]? = ρ[i]?
theorem Fr.refl {wr : List Nat} {σ : L2.St} {ρ : EnvS} : Fr wr σ ρ σ ρ := fun _ _ => ⟨rfl, rfl⟩
theorem Fr.mono {wr wr' : List Nat} {σ σ' : L2.St} {ρ ρ' : EnvS} (h : Fr wr σ ρ σ' ρ') (s : ∀ i, i ∈ wr → i ∈ wr') : Fr wr' σ ρ σ' ρ' := fun i hi => h i fun z => hi (s i z)
theorem Fr.trans {wr : List Nat} {σ σ1 σ' : L2.St} {ρ ρ1 ρ' : EnvS} (h : Fr wr σ ρ σ1 ρ1) (h' : Fr wr σ1 ρ1 σ' ρ') : Fr wr σ ρ σ' ρ' := fun i hi => ⟨(h' i hi).1.trans (h i hi).1, (h' i hi).2.trans (h i hi).2⟩

def PostS (K : PySem.W.Frag) (mg : Str → Option Value) (W : WX) (G0 H0 : Hp) (wr : List Nat) (σ : L2.St) (ρ : EnvS) (G : Hp) (o : Out) (Dd : Ends) : Prop :=
  match o with
  | .nx ρ' => ∀ σ' G' H', StOk K G0 H0 G' H' σ' ρ' → Same G G' → Fr wr σ ρ σ' ρ' → Dd.nx σ' H'
  | .rt d => ∀ v G' H', Ext G0 H0 G' H' → Rp K G' v d → Dd.rt v H'
  | .bk ρ' => ∀ σ' G' H', StOk K G0 H0 G' H' σ' ρ' → Same G G' → Fr wr σ ρ σ' ρ' → Dd.bk σ' H'
  | .ct ρ' => ∀ σ' G' H', StOk K G0 H0 G' H' σ' ρ' → Same G G' → Fr wr σ ρ σ' ρ' → Dd.ct σ' H'
  | .ex x ρ' => ∀ c σ' G' H', mg x = some c → StOk K G0 H0 G' H' σ' ρ' → Same G G' → Fr wr σ ρ σ' ρ' → W c none σ' H'
  | .no => False
theorem PostS.later {K : PySem.W.Frag} {mg : Str → Option Value} {W : WX} {G0 H0 : Hp} {wr wr' : List Nat} {σ σ1 : L2.St} {ρ ρ1 : EnvS} {G G1 : Hp} {o : Out} {Dd : Ends} (h : PostS K mg W G0 H0 wr' σ ρ G o Dd) (s : ∀ i, i ∈ wr → i ∈ wr')
    (hg : Same G G1) (f : Fr wr' σ ρ σ1 ρ1) : PostS K mg W G0 H0 wr σ1 ρ1 G1 o Dd := by
  cases o with
  | nx ρ' => exact fun σ' G' H' a b c => h σ' G' H' a (hg.trans b) (f.trans (c.mono s))
  | rt d => exact h
  | bk ρ' => exact fun σ' G' H' a b c => h σ' G' H' a (hg.trans b) (f.trans (c.mono s))
  | ct ρ' => exact fun σ' G' H' a b c => h σ' G' H' a (hg.trans b) (f.trans (c.mono s))
  | ex x ρ' => exact fun cc σ' G' H' m a b c => h cc σ' G' H' m a (hg.trans b) (f.trans (c.mono s))
  | no => exact h
def tS (K : PySem.W.Frag) (mg : Str → Option Value) (W : WX) (wr : List Nat) (g : EnvS → Out) : TS := fun Dd σ H =>
  ∃ G0 H0 G ρ, StOk K G0 H0 G H σ ρ ∧ PostS K mg W G0 H0 wr σ ρ G (g ρ) Dd
abbrev PSD (X : Cx) (W : WX) (wr : List Nat) (st : Stmt) (g : EnvS → Out) : Prop := PS X st (tS X.K X.mg W wr g)
abbrev PSsD (X : Cx) (W : WX) (wr : List Nat) (st : List Stmt) (g : EnvS → Out) : Prop := PSs X st (tS X.K X.mg W wr g)
section
variable {K : PySem.W.Frag} {mg : Str → Option Value} {W : WX} {σ : L2.St} {ρ : EnvS} {G0 H0 G H : Hp} {wr : List Nat} {Dd : Ends}
/-- an expression within a statement -/
theorem outE {α υ : Type} {rp : Hp → υ → α → Prop} {f : EnvS → R α} {k : α → Out} {Q1 : υ → Hp → Prop} (q : PostS K mg W G0 H0 wr σ ρ G ((f ρ).out ρ k) Dd) (ok : StOk K G0 H0 G H σ ρ)
    (c : ∀ a v G1 H1, f ρ = .ok a → Ext G H G1 H1 → rp G1 v a → StOk K G0 H0 G1 H1 σ ρ → PostS K mg W G0 H0 wr σ ρ G1 (k a) Dd → Q1 v H1) : tD K mg W rp f σ H Q1 := by
  refine ⟨G, ρ, ok.ext.sub, ok.env, ?_⟩
  cases e : f ρ with
  | ok a =>
    rw [e] at q
    exact fun v G1 H1 e1 r1 => c a v G1 H1 e e1 r1 (ok.step e1) (PostS.later q (fun _ h => h) e1.gg .refl)
  | ex x =>
    rw [e] at q
    exact fun G1 H1 e1 cc m => q cc σ G1 H1 m (ok.step e1) e1.gg .refl
  | no => rw [e] at q; exact q.elim
theorem outN {f : EnvS → R (List D)} {k : List D → Out} {Q1 : VK} (q : PostS K mg W G0 H0 wr σ ρ G ((f ρ).out ρ k) Dd) (ok : StOk K G0 H0 G H σ ρ)
    (c : ∀ ds a xs G1 H1, Ext G H G1 H1 → H a = none → G1 a = none → H1 a = some (.lst xs) → RpAll K G1 xs ds → StOk K G0 H0 G1 H1 σ ρ → PostS K mg W G0 H0 wr σ ρ G1 (k ds) Dd → Q1 (.ref a) H1) : tN K mg W f σ H Q1 := by
  refine ⟨G, ρ, ok.ext.sub, ok.env, ?_⟩
  cases e : f ρ with
  | ok a =>
    rw [e] at q
    exact fun v xs G1 H1 e1 n1 n2 h1 r1 => c a v xs G1 H1 e1 n1 n2 h1 r1 (ok.step e1) (PostS.later q (fun _ h => h) e1.gg .refl)
  | ex x =>
    rw [e] at q
    exact fun G1 H1 e1 cc m => q cc σ G1 H1 m (ok.step e1) e1.gg .refl
  | no => rw [e] at q; exact q.elim
theorem outL {f : EnvS → R (List D)} {k : List D → Out} {Q1 : VK} (q : PostS K mg W G0 H0 wr σ ρ G ((f ρ).out ρ k) Dd) (ok : StOk K G0 H0 G H σ ρ)
    (c : ∀ ds a xs G1 H1, Ext G H G1 H1 → H1 a = some (.lst xs) → RpAll K G1 xs ds → StOk K G0 H0 G1 H1 σ ρ → PostS K mg W G0 H0 wr σ ρ G1 (k ds) Dd → Q1 (.ref a) H1) : tL K mg W f σ H Q1 := by
  refine ⟨G, ρ, ok.ext.sub, ok.env, ?_⟩
  cases e : f ρ with
  | ok a =>
    rw [e] at q
    exact fun v xs G1 H1 e1 h1 r1 => c a v xs G1 H1 e1 h1 r1 (ok.step e1) (PostS.later q (fun _ h => h) e1.gg .refl)
  | ex x =>
    rw [e] at q
    exact fun G1 H1 e1 cc m => q cc σ G1 H1 m (ok.step e1) e1.gg .refl
  | no => rw [e] at q; exact q.elim
theorem get_set {α : Type} {l : List (Option α)} {i j : Nat} {x : Option α} {y : α} (h : (l.set i x)[j]? = some (some y)) : (j = i ∧ x = some y ∧ i < l.length) ∨ (j ≠ i ∧ l[j]? = some (some y)) := by
  by_cases e : i = j
  · subst e
    have hl : i < l.length := by
      rcases Nat.lt_or_ge i l.length with z | z
      · exact z
      · rw [List.getElem?_eq_none (by rw [List.length_set]; exact z)] at h; cases h
    rw [List.getElem?_set_self hl] at h
    exact .inl ⟨rfl, Option.some.inj h, hl⟩
  · rw [List.getElem?_set_ne e] at h
    exact .inr ⟨Ne.symm e, h⟩
/-- settled data at a place -/
theorem StOk.put (ok : StOk K G0 H0 G H σ ρ) {v : V} {d : D} (r : Rp K G v d) (i : Nat) : StOk K G0 H0 G H (σ.set i (some v)) (ρ.set i (some (.pu d))) := by
  refine ⟨ok.ext, by rw [List.length_set, List.length_set]; exact ok.len, ⟨fun j e h => ?_, fun j ds h => ?_, by rw [List.length_set, List.length_set]; exact ok.len⟩, fun j ds p h h' => ?_, fun j l ds es p hne h1 h2 h3 h4 => ?_⟩
  · rcases get_set h with ⟨rfl, e1, hl⟩ | ⟨hj, h⟩
    · cases e1
      exact ⟨v, List.getElem?_set_self (by rw [ok.len]; exact hl), r⟩
    · rw [List.getElem?_set_ne (Ne.symm hj)]
      exact ok.env.pu j e h
  · rcases get_set h with ⟨rfl, e1, hl⟩ | ⟨hj, h⟩
    · cases e1
    · rw [List.getElem?_set_ne (Ne.symm hj)]
      exact ok.env.ow j ds h
  · rcases get_set h with ⟨rfl, e1, hl⟩ | ⟨hj, h⟩
    · cases e1
    · rw [List.getElem?_set_ne (Ne.symm hj)] at h'
      exact ok.own j ds p h h'
  · rcases get_set h1 with ⟨rfl, e1, hl⟩ | ⟨hj, h1⟩
    · cases e1
    rcases get_set h2 with ⟨rfl, e1, hl⟩ | ⟨hl, h2⟩
    · cases e1
    rw [List.getElem?_set_ne (Ne.symm hj)] at h3
    rw [List.getElem?_set_ne (Ne.symm hl)] at h4
    exact ok.inj j l ds es p hne h1 h2 h3 h4
theorem fr_set {σ : L2.St} {ρ : EnvS} {i : Nat} {v : Option V} {s : Option Sl} : Fr [i] σ ρ (σ.set i v) (ρ.set i s) := fun j hj => by
  have h : i ≠ j := fun e => hj (by rw [e]; exact List.mem_singleton_self _)
  exact ⟨List.getElem?_set_ne h, List.getElem?_set_ne h⟩
/-- a new list of one's own at a place -/
theorem StOk.putOw (ok : StOk K G0 H0 G H σ ρ) {a : Addr} {xs : List V} {ds : List D} (n : G a = none) (h0 : H0 a = none) (ha : H a = some (.lst xs)) (r : RpAll K G xs ds) (i : Nat)
    (hfr : ∀ (j : Nat) (es : List D) , ρ[j]? = some (some (.ow es)) → σ[j]? ≠ some (some (.ref a))) : StOk K G0 H0 G H (σ.set i (some (.ref a))) (ρ.set i (some (.ow ds))) := by
  refine ⟨ok.ext, by rw [List.length_set, List.length_set]; exact ok.len, ⟨fun j e h => ?_, fun j es h => ?_, by rw [List.length_set, List.length_set]; exact ok.len⟩, fun j es p h h' => ?_, fun j l fs es p hne h1 h2 h3 h4 => ?_⟩
  · rcases get_set h with ⟨rfl, e1, hl⟩ | ⟨hj, h⟩
    · cases e1
    · rw [List.getElem?_set_ne (Ne.symm hj)]
      exact ok.env.pu j e h
  · rcases get_set h with ⟨rfl, e1, hl⟩ | ⟨hj, h⟩
    · cases e1
      exact ⟨a, xs, List.getElem?_set_self (by rw [ok.len]; exact hl), ha, n, r⟩
    · rw [List.getElem?_set_ne (Ne.symm hj)]
      exact ok.env.ow j es h
  · rcases get_set h with ⟨rfl, e1, hl⟩ | ⟨hj, h⟩
    · rw [List.getElem?_set_self (by rw [ok.len]; exact hl)] at h'
      cases h'
      exact h0
    · rw [List.getElem?_set_ne (Ne.symm hj)] at h'
      exact ok.own j es p h h'
  · rcases get_set h1 with ⟨rfl, e1, hl⟩ | ⟨hj, hj1⟩
    · rw [List.getElem?_set_self (by rw [ok.len]; exact hl)] at h3
      cases h3
      rw [List.getElem?_set_ne hne] at h4 h2
      exact hfr l es h2 h4
    · rw [List.getElem?_set_ne (Ne.symm hj)] at h3
      rcases get_set h2 with ⟨rfl, e1, hl⟩ | ⟨hl, h2⟩
      · rw [List.getElem?_set_self (by rw [ok.len]; exact hl)] at h4
        cases h4
        exact hfr j fs hj1 h3
      · rw [List.getElem?_set_ne (Ne.symm hl)] at h4
        exact ok.inj j l fs es p hne hj1 h2 h3 h4
/-- one's own list is changed -/
theorem StOk.mut (ok : StOk K G0 H0 G H σ ρ) {i : Nat} {p : Addr} {xs : List V} {ds es : List D} (hi : ρ[i]? = some (some (.ow ds))) (hp : σ[i]? = some (some (.ref p))) (r : RpAll K G xs es) :
    StOk K G0 H0 G (upd H p (.lst xs)) σ (ρ.set i (some (.ow es))) := by
  obtain ⟨p', vs, e1, h1, n1, r1⟩ := ok.env.ow i ds hi
  rw [hp] at e1
  cases e1
  have h0 := ok.own i ds p hi hp
  have hil : i < ρ.length := (List.getElem?_eq_some_iff.mp hi).1
  refine ⟨⟨fun b o hb => ?_, fun b o hb => ?_, ok.ext.gg, ok.ext.fr⟩, by rw [List.length_set]; exact ok.len, ⟨fun j e h => ?_, fun j fs h => ?_, by rw [List.length_set]; exact ok.len⟩, fun j fs q h h' => ?_, fun j l fs gs q hne h1 h2 h3 h4 => ?_⟩
  · rw [upd_ne (ne_of_none hb n1)]
    exact ok.ext.sub _ _ hb
  · rw [upd_ne (ne_of_none hb h0)]
    exact ok.ext.hh _ _ hb
  · rcases get_set h with ⟨rfl, e1, hl⟩ | ⟨hj, h⟩
    · cases e1
    · exact ok.env.pu j e h
  · rcases get_set h with ⟨rfl, e1, hl⟩ | ⟨hj, h⟩
    · cases e1
      exact ⟨p, xs, hp, upd_same, n1, r⟩
    · obtain ⟨q, ws, e2, h2, n2, r2⟩ := ok.env.ow j fs h
      refine ⟨q, ws, e2, ?_, n2, r2⟩
      rw [upd_ne (fun z => ok.inj j i fs ds q hj h hi e2 (by rw [z]; exact hp))]
      exact h2
  · rcases get_set h with ⟨rfl, e1, hl⟩ | ⟨hj, h⟩
    · rw [hp] at h'; cases h'; exact h0
    · exact ok.own j fs q h h'
  · rcases get_set h1 with ⟨rfl, e1, hl⟩ | ⟨hj, hj1⟩
    · rw [List.getElem?_set_ne hne] at h2
      exact ok.inj j l ds gs q hne hi h2 h3 h4
    · rcases get_set h2 with ⟨rfl, e1, hl⟩ | ⟨hl, h2⟩
      · exact ok.inj j l fs ds q hne hj1 hi h3 h4
      · exact ok.inj j l fs gs q hne hj1 h2 h3 h4
end

section
variable {X : Cx} {W : WX} {wr wr1 wr2 : List Nat} {pos : Pos}
/-! ### blocks -/
def nxO : EnvS → Out := fun ρ => .nx ρ
def sqO (g h : EnvS → Out) : EnvS → Out := fun ρ => (g ρ).seq h
theorem ss_nil : PSsD X W [] [] nxO := pss_nil.wk fun Dd σ H ⟨G0, H0, G, ρ, ok, q⟩ => q σ G H ok (.refl _) .refl
theorem ss_one {st : Stmt} {g : EnvS → Out} (h : PSD X W wr st g) : PSsD X W wr [st] g := pss_one h
theorem ss_cons {st : Stmt} {rest : List Stmt} {g h : EnvS → Out} (h1 : PSD X W wr1 st g) (h2 : PSsD X W wr2 rest h) : PSsD X W (wr1 ++ wr2) (st :: rest) (sqO g h) := (pss_cons h1 h2).wk fun Dd σ H ⟨G0, H0, G, ρ, ok, q⟩ => by
  unfold sqO at q
  refine ⟨G0, H0, G, ρ, ok, ?_⟩
  cases e : g ρ with
  | nx ρ1 =>
    rw [e] at q
    exact fun σ1 G1 H1 ok1 s1 f1 => ⟨G0, H0, G1, ρ1, ok1, PostS.later q (fun i h => List.mem_append_right _ h) s1 (f1.mono fun i h => List.mem_append_left _ h)⟩
  | rt d => rw [e] at q; exact q
  | bk ρ1 => rw [e] at q; exact fun σ' G' H' a b c => q σ' G' H' a b (c.mono fun i h => List.mem_append_left _ h)
  | ct ρ1 => rw [e] at q; exact fun σ' G' H' a b c => q σ' G' H' a b (c.mono fun i h => List.mem_append_left _ h)
  | ex x ρ1 => rw [e] at q; exact fun cc σ' G' H' m a b c => q cc σ' G' H' m a b (c.mono fun i h => List.mem_append_left _ h)
  | no => rw [e] at q; exact q
theorem s_pass : PSD X W [] (.Pass pos) nxO := ps_pass.wk fun Dd σ H ⟨G0, H0, G, ρ, ok, q⟩ => q σ G H ok (.refl _) .refl
theorem s_break : PSD X W [] (.Break pos) (fun ρ => .bk ρ) := ps_break.wk fun Dd σ H ⟨G0, H0, G, ρ, ok, q⟩ => q σ G H ok (.refl _) .refl
theorem s_continue : PSD X W [] (.Continue pos) (fun ρ => .ct ρ) := ps_continue.wk fun Dd σ H ⟨G0, H0, G, ρ, ok, q⟩ => q σ G H ok (.refl _) .refl
theorem s_doc {x j pos pos'} : PSD X W [] (.Expr (.Constant (.str x) j pos) pos') nxO := ps_doc.wk fun Dd σ H ⟨G0, H0, G, ρ, ok, q⟩ => q σ G H ok (.refl _) .refl
def rtO (f : EnvS → R D) : EnvS → Out := fun ρ => (f ρ).out ρ fun d => .rt d
theorem s_ret {e : Expr} {f : EnvS → R D} (h : PD X W e f) : PSD X W [] (.Return (some e) pos) (rtO f) := (ps_ret h).wk fun Dd σ H ⟨G0, H0, G, ρ, ok, q⟩ =>
  outE q ok fun d v G1 H1 _ e1 r1 ok1 q1 => q1 v G1 H1 ok1.ext r1
theorem s_retN : PSD X W [] (.Return none pos) (fun _ => .rt .none) := ps_retN.wk fun Dd σ H ⟨G0, H0, G, ρ, ok, q⟩ => q .non G H ok.ext .non
/-- return of one's own list -/
theorem s_retOwn (i : Nat) {x : Str} {p pos : Pos} (hN : X.N[i]? = some x := by rfl) (hv : Vis X.env.scope x := by first | exact Or.inl rfl | exact Or.inr (Or.inl rfl) | exact Or.inr (Or.inr rfl)) (hd : (x == ("__debug__" : Str)) = false := by decide)
    (hcd : (x == ("__classdict__" : Str)) = false := by decide) : PSD X W [] (.Return (some (.Name x p)) pos) (fun ρ => (ownD i ρ).out ρ fun ds => .rt (.list ds)) := (ps_ret (pe_var hN hv hd hcd)).wk fun Dd σ H ⟨G0, H0, G, ρ, ok, q⟩ => by
  unfold ownD at q
  cases e : ρ[i]? with
  | none => simp only [e] at q; exact q.elim
  | some o =>
    cases o with
    | none => simp only [e] at q; exact q.elim
    | some d =>
      cases d with
      | pu d => simp only [e] at q; exact q.elim
      | ow ds =>
        simp only [e] at q
        obtain ⟨p, vs, h1, h2, n1, r1⟩ := ok.env.ow i ds e
        have h0 := ok.own i ds p e h1
        refine ⟨_, h1, q (.ref p) (upd G p (.lst vs)) H ⟨fun b o hb => ?_, ok.ext.hh, ok.ext.gg.trans (same_upd n1), fun b z1 z2 => ?_⟩ (.lst upd_same (r1.up (same_upd n1)))⟩
        · by_cases hab : b = p
          · subst hab; rw [upd_same] at hb; cases hb; exact h2
          · rw [upd_ne hab] at hb; exact ok.ext.sub _ _ hb
        · by_cases hab : b = p
          · subst hab; exact h0
          · rw [upd_ne hab] at z2; exact ok.ext.fr b z1 z2
def exO (f : EnvS → R D) : EnvS → Out := fun ρ => (f ρ).out ρ fun _ => .nx ρ
theorem s_expr {e : Expr} {f : EnvS → R D} (h : PD X W e f) (hs : swapsWith e none pos.line X.env = pure false := by rfl) : PSD X W [] (.Expr e pos) (exO f) := (ps_expr h hs).wk fun Dd σ H ⟨G0, H0, G, ρ, ok, q⟩ =>
  outE q ok fun d v G1 H1 _ e1 r1 ok1 q1 => q1 σ G1 H1 ok1 (.refl _) .refl
def ifO (c : EnvS → R Bool) (g h : EnvS → Out) : EnvS → Out := fun ρ => (c ρ).out ρ fun b => if b = true then g ρ else h ρ
theorem s_if {c : Expr} {a b : List Stmt} {t : EnvS → R Bool} {g h : EnvS → Out} (hc : PTD X W c t) (ha : PSsD X W wr1 a g) (hb : PSsD X W wr2 b h) : PSD X W (wr1 ++ wr2) (.If c a b pos) (ifO t g h) := (ps_if hc ha hb).wk fun Dd σ H ⟨G0, H0, G, ρ, ok, q⟩ =>
  outE q ok fun d v G1 H1 _ e1 r1 ok1 q1 => by
    cases r1
    have mono : ∀ {wr' : List Nat} {o : Out}, (∀ i, i ∈ wr' → i ∈ wr1 ++ wr2) → PostS X.K X.mg W G0 H0 (wr1 ++ wr2) σ ρ G1 o Dd → PostS X.K X.mg W G0 H0 wr' σ ρ G1 o Dd := fun s h => PostS.later h s (.refl _) .refl
    cases d with
    | true => exact ⟨G0, H0, G1, ρ, ok1, mono (fun i h => List.mem_append_left _ h) q1⟩
    | false => exact ⟨G0, H0, G1, ρ, ok1, mono (fun i h => List.mem_append_right _ h) q1⟩
/-! ### stores -/
def stO (i : Nat) (f : EnvS → R D) : EnvS → Out := fun ρ => (f ρ).out ρ fun d => .nx (ρ.set i (some (.pu d)))
def owO (i : Nat) (f : EnvS → R (List D)) : EnvS → Out := fun ρ => (f ρ).out ρ fun d => .nx (ρ.set i (some (.ow d)))
theorem s_setG {st : Stmt} {i : Nat} {f : EnvS → R D} (h : PS X st (tAsg (tD X.K X.mg W (rpE X.K) f) (gName i))) : PSD X W [i] st (stO i f) := h.wk fun Dd σ H ⟨G0, H0, G, ρ, ok, q⟩ =>
  outE q ok fun d v G1 H1 _ e1 r1 ok1 q1 => q1 _ G1 H1 (ok1.put r1 i) (.refl _) fr_set
theorem s_ownG {st : Stmt} {i : Nat} {f : EnvS → R (List D)} (h : PS X st (tAsg (tN X.K X.mg W f) (gName i))) : PSD X W [i] st (owO i f) := h.wk fun Dd σ H ⟨G0, H0, G, ρ, ok, q⟩ =>
  outN q ok fun ds a xs G1 H1 e1 n1 n2 h1 r1 ok1 q1 => q1 _ G1 H1 (ok1.putOw n2 (ok.ext.hh.free n1) h1 r1 i fun j es hj hs => by
    obtain ⟨p, vs, z1, z2, z3, z4⟩ := ok.env.ow j es hj
    rw [hs] at z1
    cases z1
    rw [n1] at z2
    cases z2) (.refl _) fr_set
/-- a new list that is settled at once -/
theorem s_setNG {st : Stmt} {i : Nat} {f : EnvS → R (List D)} (h : PS X st (tAsg (tN X.K X.mg W f) (gName i))) : PSD X W [i] st (stO i (lstF f)) := s_setG (h.wk fun Dd σ H q => tN_of q)
theorem s_set (i : Nat) {x : Str} {e : Expr} {f : EnvS → R D} {pos' : Pos} (hN : X.N.Nodup) (he : PD X W e f) (hi : X.N[i]? = some x := by rfl) (hx : Loc X.env.scope x := by first | exact Or.inl rfl | exact Or.inr rfl) (hs : swapsWith e (some (.Name x pos')) pos.line X.env = pure false := by rfl)
    (hf : X.fn x = true ∨ X.env.scope.names.lookup x = some .local := by first | exact .inl rfl | exact .inr rfl) : PSD X W [i] (.Assign [.Name x pos'] e pos) (stO i f) := s_setG (ps_set hN hi hx he hs hf)
theorem s_own (i : Nat) {x : Str} {e : Expr} {f : EnvS → R (List D)} {pos' : Pos} (hN : X.N.Nodup) (he : PDN X W e f) (hi : X.N[i]? = some x := by rfl) (hx : Loc X.env.scope x := by first | exact Or.inl rfl | exact Or.inr rfl) (hs : swapsWith e (some (.Name x pos')) pos.line X.env = pure false := by rfl)
    (hf : X.fn x = true ∨ X.env.scope.names.lookup x = some .local := by first | exact .inl rfl | exact .inr rfl) : PSD X W [i] (.Assign [.Name x pos'] e pos) (owO i f) := s_ownG (ps_set hN hi hx he hs hf)
end
end TD

/-! TdLoop: targets, unpacking, loops, comprehensions. -/
namespace TD
open PySem PySem.Spec PyProof.Rows L2
/-! ### targets: names, nested tuples of names -/
/-- places filled with settled data -/
structure Put (K : PySem.W.Frag) (G H : Hp) (wr : List Nat) (σ : L2.St) (ρ : EnvS) (σ' : L2.St) (ρ' : EnvS) : Prop where
  len : σ'.length = ρ'.length
  env : EnvE K G H σ' ρ'
  fr : Fr wr σ ρ σ' ρ'
  len' : σ'.length = σ.length
  no : ∀ i ∈ wr, ∀ ds, ρ'[i]? ≠ some (some (.ow ds))
def tG (K : PySem.W.Frag) (wr : List Nat) (h : D → EnvS → R EnvS) : TG := fun v σ H Q => ∃ G ρ d, Same G H ∧ σ.length = ρ.length ∧ EnvE K G H σ ρ ∧ Rp K G v d ∧ ∃ ρ', h d ρ = .ok ρ' ∧ ∀ σ', Put K G H wr σ ρ σ' ρ' → Q σ' H
def tGs (K : PySem.W.Frag) (wr : List Nat) (h : List D → EnvS → R EnvS) : TGs := fun vs σ H Q => ∃ G ρ ds, Same G H ∧ σ.length = ρ.length ∧ EnvE K G H σ ρ ∧ RpAll K G vs ds ∧ ∃ ρ', h ds ρ = .ok ρ' ∧ ∀ σ', Put K G H wr σ ρ σ' ρ' → Q σ' H
abbrev PGD (X : Cx) (wr : List Nat) (e : Expr) (h : D → EnvS → R EnvS) : Prop := PG X e (tG X.K wr h)
abbrev PGsD (X : Cx) (wr : List Nat) (es : List Expr) (h : List D → EnvS → R EnvS) : Prop := PGs X es (tGs X.K wr h)
theorem _root_.L2.PG.wk {X : Cx} {e : Expr} {t t' : TG} (h : PG X e t) (w : ∀ v σ H Q, t' v σ H Q → t v σ H Q) : PG X e t' := ⟨fun pins s σ H v u Q I r q => h.run pins s σ H v u Q I r (w v σ H Q q)⟩
theorem _root_.L2.PGs.wk {X : Cx} {e : List Expr} {t t' : TGs} (h : PGs X e t) (w : ∀ v σ H Q, t' v σ H Q → t v σ H Q) : PGs X e t' := ⟨fun pins s σ H v u Q I r q => h.run pins s σ H v u Q I r (w v σ H Q q)⟩
def nmG (i : Nat) : D → EnvS → R EnvS := fun d ρ => .ok (ρ.set i (some (.pu d)))
def nilG : List D → EnvS → R EnvS := fun ds ρ => match ds with
  | [] => .ok ρ
  | _ => .no
def consG (h : D → EnvS → R EnvS) (k : List D → EnvS → R EnvS) : List D → EnvS → R EnvS := fun ds ρ => match ds with
  | d :: r => (h d ρ).bind fun ρ1 => k r ρ1
  | [] => .no
def tupG (n : Nat) (k : List D → EnvS → R EnvS) : D → EnvS → R EnvS := fun d ρ => match d with
  | .tuple ds => if ds.length = n then k ds ρ else .no
  | _ => .no
theorem put_set {K : PySem.W.Frag} {G H : Hp} {σ : L2.St} {ρ : EnvS} {v : V} {d : D} (hl : σ.length = ρ.length) (he : EnvE K G H σ ρ) (r : Rp K G v d) (i : Nat) : Put K G H [i] σ ρ (σ.set i (some v)) (ρ.set i (some (.pu d))) := by
  refine ⟨by rw [List.length_set, List.length_set]; exact hl, ⟨fun j e h => ?_, fun j ds h => ?_, by rw [List.length_set, List.length_set]; exact hl⟩, fr_set, List.length_set, fun j hj ds h => ?_⟩
  · rcases get_set h with ⟨rfl, e1, hlt⟩ | ⟨hj, h⟩
    · cases e1
      exact ⟨v, List.getElem?_set_self (by rw [hl]; exact hlt), r⟩
    · rw [List.getElem?_set_ne (Ne.symm hj)]
      exact he.pu j e h
  · rcases get_set h with ⟨rfl, e1, hlt⟩ | ⟨hj, h⟩
    · cases e1
    · rw [List.getElem?_set_ne (Ne.symm hj)]
      exact he.ow j ds h
  · rw [List.mem_singleton] at hj
    subst hj
    rcases get_set h with ⟨_, e1, hlt⟩ | ⟨hj, h⟩
    · cases e1
    · exact hj rfl
section
variable {X : Cx} {W : WX} {wr wr1 wr2 : List Nat} {pos : Pos}
theorem g_name (i : Nat) {x : Str} (hN : X.N.Nodup) (hi : X.N[i]? = some x := by rfl) (hx : Loc X.env.scope x := by first | exact Or.inl rfl | exact Or.inr rfl) (hf : X.fn x = true ∨ X.env.scope.names.lookup x = some .local := by first | exact .inl rfl | exact .inr rfl) : PGD X [i] (.Name x pos) (nmG i) :=
  (pg_name hN hi hx hf).wk fun v σ H Q ⟨G, ρ, d, hs, hl, he, r, ρ', e, q⟩ => by
    cases e
    exact q _ (put_set hl he r i)
theorem gs_nil : PGsD X [] [] nilG := pgs_nil.wk fun vs σ H Q ⟨G, ρ, ds, hs, hl, he, r, ρ', e, q⟩ => by
  cases r with
  | nil =>
    cases e
    exact ⟨rfl, q σ ⟨hl, he, .refl, rfl, fun i h => by cases h⟩⟩
  | cons _ _ => cases e
theorem Put.trans {K : PySem.W.Frag} {G H : Hp} {σ σ1 σ2 : L2.St} {ρ ρ1 ρ2 : EnvS} (a : Put K G H wr1 σ ρ σ1 ρ1) (b : Put K G H wr2 σ1 ρ1 σ2 ρ2) : Put K G H (wr1 ++ wr2) σ ρ σ2 ρ2 := by
  refine ⟨b.len, b.env, (a.fr.mono fun i h => List.mem_append_left _ h).trans (b.fr.mono fun i h => List.mem_append_right _ h), b.len'.trans a.len', fun i hi ds h => ?_⟩
  by_cases h2 : i ∈ wr2
  · exact b.no i h2 ds h
  · rw [(b.fr i h2).2] at h
    rcases List.mem_append.mp hi with h1 | h1
    · exact a.no i h1 ds h
    · exact h2 h1
theorem gs_cons {e : Expr} {es : List Expr} {h : D → EnvS → R EnvS} {k : List D → EnvS → R EnvS} (h1 : PGD X wr1 e h) (h2 : PGsD X wr2 es k)
    (hs : (assignEach (e :: es) X.env).map (·.2) = assign e X.env :: (assignEach es X.env).map (·.2) := by rfl) : PGsD X (wr1 ++ wr2) (e :: es) (consG h k) := (pgs_cons h1 h2 hs).wk fun vs σ H Q ⟨G, ρ, ds, hs, hl, he, r, ρ', e, q⟩ => by
  cases r with
  | nil => cases e
  | @cons v vr d dr r1 r2 =>
    unfold consG at e
    dsimp only at e
    cases e1 : h d ρ with
    | ok ρ1 =>
      rw [e1] at e
      exact ⟨v, vr, rfl, G, ρ, d, hs, hl, he, r1, ρ1, e1, fun σ1 p1 => ⟨G, ρ1, _, hs, p1.len, p1.env, r2, ρ', e, fun σ2 p2 => q σ2 (p1.trans p2)⟩⟩
    | ex x => rw [e1] at e; cases e
    | no => rw [e1] at e; cases e
theorem g_tup (n : Nat) {es : List Expr} {k : Nat} {g : List D → EnvS → R EnvS} (h : PGsD X wr es g) (hc : X.calm = true := by rfl)
    (hn : (assignEach es X.env).length = n := by rfl) (hst : (assignEach es X.env).findIdx? (·.1) = none := by rfl) : PGD X wr (.Tuple es k pos) (tupG n g) := (pg_tup hc h hn hst).wk fun v σ H Q ⟨G, ρ, d, hs, hl, he, r, ρ', e, q⟩ => by
  unfold tupG at e
  cases d with
  | tuple ds =>
    dsimp only at e
    split at e
    · rename_i hn
      obtain ⟨a, xs, rfl, h1, g1, p1⟩ := r.seqT hs
      exact ⟨a, xs, rfl, h1, by rw [p1.length]; exact hn, G, ρ, ds, hs, hl, he, p1, ρ', e, q⟩
    · cases e
  | _ => cases e
theorem StOk.puts {K : PySem.W.Frag} {G0 H0 G H : Hp} {σ σ' : L2.St} {ρ ρ' : EnvS} (ok : StOk K G0 H0 G H σ ρ) (p : Put K G H wr σ ρ σ' ρ') : StOk K G0 H0 G H σ' ρ' := by
  have out : ∀ (i : Nat) (ds : List D), ρ'[i]? = some (some (.ow ds)) → i ∉ wr := fun i ds h hi => p.no i hi ds h
  refine ⟨ok.ext, p.len, p.env, fun i ds a h h' => ?_, fun i j ds es a hne h1 h2 h3 h4 => ?_⟩
  · have f := p.fr i (out i ds h)
    rw [f.2] at h
    rw [f.1] at h'
    exact ok.own i ds a h h'
  · have f := p.fr i (out i ds h1)
    have f2 := p.fr j (out j es h2)
    rw [f.2] at h1
    rw [f.1] at h3
    rw [f2.2] at h2
    rw [f2.1] at h4
    exact ok.inj i j ds es a hne h1 h2 h3 h4
/-- target = value -/
def grd (r : R EnvS) : Out := match r with
  | .ok ρ => .nx ρ
  | _ => .no
def unO (f : EnvS → R D) (h : D → EnvS → R EnvS) : EnvS → Out := fun ρ => (f ρ).out ρ fun d => grd (h d ρ)
theorem s_unp {tg e : Expr} {f : EnvS → R D} {h : D → EnvS → R EnvS} (he : PD X W e f) (hg : PGD X wr tg h) (hs : swapsWithSole [tg] e pos.line X.env = pure false := by rfl) (hw : swappedStores [tg] e X.env = pure none := by rfl)
    (h1 : (assignEach [tg] X.env).map (·.2) = [assign tg X.env] := by rfl) : PSD X W wr (.Assign [tg] e pos) (unO f h) := (ps_asg he hg hs hw h1).wk fun Dd σ H ⟨G0, H0, G, ρ, ok, q⟩ =>
  outE q ok fun d v G1 H1 _ e1 r1 ok1 q1 => by
    unfold grd at q1
    cases e : h d ρ with
    | ok ρ' =>
      rw [e] at q1
      exact ⟨G1, ρ, d, ok1.ext.sub, ok1.len, ok1.env, r1, ρ', e, fun σ' p => q1 σ' G1 H1 (ok1.puts p) (.refl _) p.fr⟩
    | ex x => rw [e] at q1; exact q1.elim
    | no => rw [e] at q1; exact q1.elim
/-- a, b = e1, e2 with plain local names -/
def parO (i j : Nat) (g : EnvS → R (List D)) : EnvS → Out := fun ρ => (g ρ).out ρ fun ds => match ds with
  | [a, b] => .nx ((ρ.set i (some (.pu a))).set j (some (.pu b)))
  | _ => .no
theorem s_par (i j : Nat) {x y : Str} {a b : Expr} {px py pt : Pos} {kt k2 pt2} {g : EnvS → R (List D)} (hN : X.N.Nodup) (ha : PAD X W [a, b] g) (hc : X.calm = true := by rfl) (hi : X.N[i]? = some x := by rfl) (hj : X.N[j]? = some y := by rfl) (hij : i ≠ j := by decide)
    (hx : X.env.scope.names.lookup x = some .local := by rfl) (hy : X.env.scope.names.lookup y = some .local := by rfl)
    (hw : swappedStores [.Tuple [.Name x px, .Name y py] kt pt] (.Tuple [a, b] k2 pt2) X.env = pure (some [x, y]) := by rfl) (hs : swapsWithSole [.Tuple [.Name x px, .Name y py] kt pt] (.Tuple [a, b] k2 pt2) pos.line X.env = pure false := by rfl) :
    PSD X W [i, j] (.Assign [.Tuple [.Name x px, .Name y py] kt pt] (.Tuple [a, b] k2 pt2) pos) (parO i j g) := (ps_par hc hN hi hj hij hx hy ha hw hs).wk fun Dd σ H ⟨G0, H0, G, ρ, ok, q⟩ =>
  outE q ok fun ds vs G1 H1 _ e1 r1 ok1 q1 => by
    split at q1
    · rename_i d e
      cases r1 with
      | cons ra rr =>
        cases rr with
        | cons rb rn =>
          cases rn
          exact ⟨_, _, rfl, q1 _ G1 H1 ((ok1.put ra i).put rb j) (.refl _) ((fr_set.mono (by simp)).trans (fr_set.mono (by simp)))⟩
    · exact q1.elim
def par3O (i j l : Nat) (g : EnvS → R (List D)) : EnvS → Out := fun ρ => (g ρ).out ρ fun ds => match ds with
  | [a, b, c] => .nx (((ρ.set i (some (.pu a))).set j (some (.pu b))).set l (some (.pu c)))
  | _ => .no
theorem s_par3 (i j l : Nat) {x y z : Str} {a b c : Expr} {px py pz pt : Pos} {kt k2 pt2} {g : EnvS → R (List D)} (hN : X.N.Nodup) (ha : PAD X W [a, b, c] g) (hc : X.calm = true := by rfl) (hi : X.N[i]? = some x := by rfl) (hj : X.N[j]? = some y := by rfl) (hl : X.N[l]? = some z := by rfl) (hij : i ≠ j := by decide) (hil : i ≠ l := by decide) (hjl : j ≠ l := by decide)
    (hx : X.env.scope.names.lookup x = some .local := by rfl) (hy : X.env.scope.names.lookup y = some .local := by rfl) (hz : X.env.scope.names.lookup z = some .local := by rfl)
    (hw : swappedStores [.Tuple [.Name x px, .Name y py, .Name z pz] kt pt] (.Tuple [a, b, c] k2 pt2) X.env = pure (some [x, y, z]) := by rfl) (hs : swapsWithSole [.Tuple [.Name x px, .Name y py, .Name z pz] kt pt] (.Tuple [a, b, c] k2 pt2) pos.line X.env = pure false := by rfl) :
    PSD X W [i, j, l] (.Assign [.Tuple [.Name x px, .Name y py, .Name z pz] kt pt] (.Tuple [a, b, c] k2 pt2) pos) (par3O i j l g) := (ps_par3 hc hN hi hj hl hij hil hjl hx hy hz ha hw hs).wk fun Dd σ H ⟨G0, H0, G, ρ, ok, q⟩ =>
  outE q ok fun ds vs G1 H1 _ e1 r1 ok1 q1 => by
    split at q1
    · rename_i d e f
      cases r1 with
      | cons ra rr =>
        cases rr with
        | cons rb rn =>
          cases rn with
          | cons rc rz =>
            cases rz
            exact ⟨_, _, _, rfl, q1 _ G1 H1 (((ok1.put ra i).put rb j).put rc l) (.refl _) (((fr_set.mono (by simp)).trans (fr_set.mono (by simp))).trans (fr_set.mono (by simp)))⟩
    · exact q1.elim
/-- a, b = two new lists of one's own -/
def parNO (i j : Nat) (f g : EnvS → R (List D)) : EnvS → Out := fun ρ => (f ρ).out ρ fun ds => (g ρ).out ρ fun es => .nx ((ρ.set i (some (.ow ds))).set j (some (.ow es)))
theorem s_parN (i j : Nat) {x y : Str} {a b : Expr} {px py pt : Pos} {kt k2 pt2} {f g : EnvS → R (List D)} (hN : X.N.Nodup) (ha : PDN X W a f) (hb : PDN X W b g) (hc : X.calm = true := by rfl) (hi : X.N[i]? = some x := by rfl) (hj : X.N[j]? = some y := by rfl) (hij : i ≠ j := by decide)
    (hx : X.env.scope.names.lookup x = some .local := by rfl) (hy : X.env.scope.names.lookup y = some .local := by rfl)
    (h1 : starEach [a, b] X.env = (false, eval a X.env) :: starEach [b] X.env := by rfl) (h2 : starEach [b] X.env = (false, eval b X.env) :: starEach [] X.env := by rfl)
    (hw : swappedStores [.Tuple [.Name x px, .Name y py] kt pt] (.Tuple [a, b] k2 pt2) X.env = pure (some [x, y]) := by rfl) (hs : swapsWithSole [.Tuple [.Name x px, .Name y py] kt pt] (.Tuple [a, b] k2 pt2) pos.line X.env = pure false := by rfl) :
    PSD X W [i, j] (.Assign [.Tuple [.Name x px, .Name y py] kt pt] (.Tuple [a, b] k2 pt2) pos) (parNO i j f g) := (ps_par hc hN hi hj hij hx hy (pa_cons ha (pa_cons hb pa_nil h2) h1) hw hs).wk fun Dd σ H ⟨G0, H0, G, ρ, ok, q⟩ =>
  outN q ok fun ds p xs G1 H1 e1 m1 n1 h1 r1 ok1 q1 => outN q1 ok1 fun es p2 ys G2 H2 e2 m2 n2 h2 r2 ok2 q2 => by
    have m0 := ok.ext.hh.free m1
    have hne : p ≠ p2 := ne_of_none h1 m2
    have hp : H2 p = some (.lst xs) := e2.hh _ _ h1
    have np : G2 p = none := by
      by_cases z : G2 p = none
      · exact z
      · rw [e2.fr p n1 z] at h1; cases h1
    have fresh : ∀ (j : Nat) (es : List D), ρ[j]? = some (some (.ow es)) → σ[j]? ≠ some (some (.ref p)) := fun j es hj hs => by
      obtain ⟨p', vs, z1, z2, _, _⟩ := ok.env.ow j es hj
      rw [hs] at z1; cases z1
      rw [m1] at z2; cases z2
    have ok3 := ok2.putOw np m0 hp (r1.up e2.gg) i fresh
    have ok4 := ok3.putOw n2 (ok1.ext.hh.free m2) h2 r2 j fun l fs hl hs => by
      rcases get_set hl with ⟨rfl, z, hlt⟩ | ⟨hj', hl'⟩
      · rw [List.getElem?_set_self (by rw [ok2.len]; exact hlt)] at hs
        cases hs
        exact hne rfl
      · rw [List.getElem?_set_ne (Ne.symm hj')] at hs
        obtain ⟨p', vs, z1, z2, _, _⟩ := ok1.env.ow l fs hl'
        rw [hs] at z1; cases z1
        rw [m2] at z2; cases z2
    exact ⟨_, _, rfl, q2 _ G2 H2 ok4 (.refl _) ((fr_set.mono (by simp)).trans (fr_set.mono (by simp)))⟩
/-- name op= e -/
def IpD (X : Cx) (r : TIp) (k : D → D → R D) : Prop := ∀ (a b : D) (x y : V) (G H : Hp) (Wx : Str → Hp → Prop) (Q : VK), Same G H → Rp X.K G x a → Rp X.K G y b → Post (rpE X.K) Wx G H (k a b) Q → r x y H Q
def augO (i : Nat) (k : D → D → R D) (f : EnvS → R D) : EnvS → Out := fun ρ => match ρ[i]? with
  | some (some (.pu a)) => (f ρ).out ρ fun b => (k a b).out ρ fun c => .nx (ρ.set i (some (.pu c)))
  | _ => .no
theorem s_aug (i : Nat) {x : Str} {e : Expr} {op : Operator} {ti : TIp} {pos' : Pos} {k : D → D → R D} {f : EnvS → R D} (hN : X.N.Nodup) (he : PD X W e f) (ho : PIp X op ti) (hk : IpD X ti k) (hi : X.N[i]? = some x := by rfl) (hx : Loc X.env.scope x := by first | exact Or.inl rfl | exact Or.inr rfl)
    (hf : X.fn x = true ∨ X.env.scope.names.lookup x = some .local := by first | exact .inl rfl | exact .inr rfl) : PSD X W [i] (.AugAssign (.Name x pos') op e pos) (augO i k f) := (ps_aug hN hi hx he ho hf).wk fun Dd σ H ⟨G0, H0, G, ρ, ok, q⟩ => by
  unfold augO at q
  split at q
  · rename_i a ha
    obtain ⟨v, h1, r1⟩ := ok.env.pu i a ha
    refine ⟨v, h1, outE q ok fun b u G1 H1 _ e1 r2 ok1 q1 => ?_⟩
    refine hk a b v u G1 H1 (Wxo X.mg W σ) _ ok1.ext.sub (r1.up e1.gg) r2 ?_
    cases e : k a b with
    | ok c =>
      rw [e] at q1
      exact fun w G2 H2 e2 r3 => q1 _ G2 H2 ((ok1.step e2).put r3 i) e2.gg fr_set
    | ex x =>
      rw [e] at q1
      exact fun G2 H2 e2 cc m => q1 cc σ G2 H2 m (ok1.step e2) e2.gg .refl
    | no => rw [e] at q1; exact q1.elim
  · exact q.elim
def ipAdd : D → D → R D
  | .int a, .int b => .ok (.int (a + b))
  | _, _ => .no
theorem id_add : IpD X (ipI fun i j => i + j) ipAdd := by
  intro a b x y G H Wx Q hs ra rb q
  unfold ipAdd at q
  split at q
  · cases ra; cases rb
    exact ⟨_, _, rfl, rfl, q.done hs (.int _)⟩
  · exact q.elim
theorem id_sub : IpD X (ipI fun i j => i - j) subD := by
  intro a b x y G H Wx Q hs ra rb q
  unfold subD at q
  split at q
  · cases ra; cases rb
    exact ⟨_, _, rfl, rfl, q.done hs (.int _)⟩
  · exact q.elim

/-! ### one's own list: append, extend, pop, an item stored -/
def appO (i : Nat) (f : EnvS → R D) : EnvS → Out := fun ρ => match ρ[i]? with
  | some (some (.ow ds)) => (f ρ).out ρ fun d => if lineOk (ds.length + 1) then .nx (ρ.set i (some (.ow (ds ++ [d])))) else .no
  | _ => .no
theorem lineOk_lt {n : Nat} (h : lineOk (n + 1) = true) : n < sizeLine := lineOk_le h
theorem s_app (i : Nat) {x : Str} {e : Expr} {p apos cpos pos : Pos} {f : EnvS → R D} (he : PD X W e f) (hN : X.N[i]? = some x := by rfl) (hv : Vis X.env.scope x := by first | exact Or.inl rfl | exact Or.inr (Or.inl rfl) | exact Or.inr (Or.inr rfl)) (hd : (x == ("__debug__" : Str)) = false := by decide)
    (hcd : (x == ("__classdict__" : Str)) = false := by decide)
    (hbase : attributeBase (.Name x p) "append" X.env (eval (.Name x p) X.env) = eval (.Name x p) X.env := by rfl)
    (hfew : ((backTo cpos (starEach [e] X.env)).all (fun x => !x.1) && (backToKw cpos (keywordEach [] X.env)).all (fun x => x.1.isSome)
      && decide ([e].length + ([] : List Keyword).length + (if ([] : List Keyword).isEmpty then 0 else 1) < 30)) = true := by rfl)
    (hline : (apos.endLine == cpos.line) = true := by rfl) (hs : starEach [e] X.env = (false, eval e X.env) :: starEach [] X.env := by rfl)
    (hsw : swapsWith (.Call (.Attribute (.Name x p) "append" apos) [e] [] cpos) none pos.line X.env = pure false := by rfl) :
    PSD X W [i] (.Expr (.Call (.Attribute (.Name x p) "append" apos) [e] [] cpos) pos) (appO i f) :=
  (ps_expr (pe_bm PySem.F.plainAttrs_list PySem.F.slot_list_append PySem.F.type_list_append mt_append (pe_var hN hv hd hcd) (pa_cons he pa_nil hs) hbase hfew hline hs rfl) hsw).wk fun Dd σ H ⟨G0, H0, G, ρ, ok, q⟩ => by
    unfold appO at q
    split at q
    · rename_i ds hi
      obtain ⟨a, xs, h1, h2, n1, r1⟩ := ok.env.ow i ds hi
      refine ⟨_, h1, .inl ⟨rfl, xs, SqL.of h2⟩, outE q ok fun d v G1 H1 _ e1 rd ok1 q1 => ?_⟩
      split at q1
      · rename_i hl
        refine ⟨a, xs, v, rfl, rfl, e1.hh _ _ h2, by rw [r1.length]; exact lineOk_lt hl, ?_⟩
        exact q1 σ G1 _ (ok1.mut hi h1 ((r1.up e1.gg).append (.one rd))) (.refl _) fun j hj => ⟨rfl, List.getElem?_set_ne (fun z => hj (by rw [z]; exact List.mem_singleton_self _))⟩
      · exact q1.elim
    · exact q.elim
def extO (i : Nat) (f : EnvS → R (List D)) : EnvS → Out := fun ρ => match ρ[i]? with
  | some (some (.ow ds)) => (f ρ).out ρ fun es => if lineOk (ds.length + es.length) then .nx (ρ.set i (some (.ow (ds ++ es)))) else .no
  | _ => .no
theorem s_ext (i : Nat) {x : Str} {e : Expr} {p apos cpos pos : Pos} {f : EnvS → R (List D)} (he : PDL X W e f) (hN : X.N[i]? = some x := by rfl) (hv : Vis X.env.scope x := by first | exact Or.inl rfl | exact Or.inr (Or.inl rfl) | exact Or.inr (Or.inr rfl)) (hd : (x == ("__debug__" : Str)) = false := by decide)
    (hcd : (x == ("__classdict__" : Str)) = false := by decide)
    (hbase : attributeBase (.Name x p) "extend" X.env (eval (.Name x p) X.env) = eval (.Name x p) X.env := by rfl)
    (hfew : ((backTo cpos (starEach [e] X.env)).all (fun x => !x.1) && (backToKw cpos (keywordEach [] X.env)).all (fun x => x.1.isSome)
      && decide ([e].length + ([] : List Keyword).length + (if ([] : List Keyword).isEmpty then 0 else 1) < 30)) = true := by rfl)
    (hline : (apos.endLine == cpos.line) = true := by rfl) (hs : starEach [e] X.env = (false, eval e X.env) :: starEach [] X.env := by rfl)
    (hsw : swapsWith (.Call (.Attribute (.Name x p) "extend" apos) [e] [] cpos) none pos.line X.env = pure false := by rfl) :
    PSD X W [i] (.Expr (.Call (.Attribute (.Name x p) "extend" apos) [e] [] cpos) pos) (extO i f) :=
  (ps_expr (pe_bm PySem.F.plainAttrs_list PySem.F.slot_list_extend PySem.F.type_list_extend mt_extend (pe_var hN hv hd hcd) (pa_cons he pa_nil hs) hbase hfew hline hs rfl) hsw).wk fun Dd σ H ⟨G0, H0, G, ρ, ok, q⟩ => by
    unfold extO at q
    split at q
    · rename_i ds hi
      obtain ⟨a, xs, h1, h2, n1, r1⟩ := ok.env.ow i ds hi
      refine ⟨_, h1, .inl ⟨rfl, xs, SqL.of h2⟩, outL q ok fun es b ys G1 H1 e1 hb rd ok1 q1 => ?_⟩
      split at q1
      · rename_i hl
        refine ⟨a, b, xs, ys, rfl, rfl, e1.hh _ _ h2, hb, by rw [r1.length, rd.length]; exact lineOk_le hl, ?_⟩
        exact q1 σ G1 _ (ok1.mut hi h1 ((r1.up e1.gg).append rd)) (.refl _) fun j hj => ⟨rfl, List.getElem?_set_ne (fun z => hj (by rw [z]; exact List.mem_singleton_self _))⟩
      · exact q1.elim
    · exact q.elim
end
end TD

/-! TdFor: what is walked; for, while, comprehensions; calls of defs, raise; the rule for a def. -/
namespace TD
open PySem PySem.Spec PyProof.Rows L2
/-! ### what is walked -/
/-- the walk gives these data, whatever settled heap it is in -/
structure Walk (K : PySem.W.Frag) (J : It) (G : Hp) (ds : List D) : Prop where
  go : ∀ (i : Nat) (d : D) (G2 H2 : Hp), ds[i]? = some d → Same G G2 → Same G2 H2 → J.go i H2
  yld : ∀ (i : Nat) (d : D) (x : V) (G2 H2 H3 : Hp), ds[i]? = some d → Same G G2 → Same G2 H2 → J.yld i H2 x H3 → ∃ G3, Ext G2 H2 G3 H3 ∧ Rp K G3 x d
  stop : ∀ (G2 H2 : Hp), Same G G2 → Same G2 H2 → J.stop ds.length H2
/-- the same, where all that is tracked stays -/
structure WalkH (K : PySem.W.Frag) (J : It) (G H : Hp) (ds : List D) : Prop where
  go : ∀ (i : Nat) (d : D) (G2 H2 : Hp), ds[i]? = some d → Ext G H G2 H2 → J.go i H2
  yld : ∀ (i : Nat) (d : D) (x : V) (G2 H2 H3 : Hp), ds[i]? = some d → Ext G H G2 H2 → J.yld i H2 x H3 → ∃ G3, Ext G2 H2 G3 H3 ∧ Rp K G3 x d
  stop : ∀ (G2 H2 : Hp), Ext G H G2 H2 → J.stop ds.length H2
theorem Walk.toH {K : PySem.W.Frag} {J : It} {G H : Hp} {ds : List D} (w : Walk K J G ds) : WalkH K J G H ds := ⟨fun i d G2 H2 h e => w.go i d G2 H2 h e.gg e.sub, fun i d x G2 H2 H3 h e => w.yld i d x G2 H2 H3 h e.gg e.sub, fun G2 H2 e => w.stop G2 H2 e.gg e.sub⟩
theorem walk_list {K : PySem.W.Frag} {G : Hp} {a : Addr} {xs : List V} {ds : List D} (h : G a = some (.lst xs)) (r : RpAll K G xs ds) : Walk K (Itl K a) G ds := by
  refine ⟨fun i d G2 H2 hd e1 e2 => ?_, fun i d x G2 H2 H3 hd e1 e2 hy => ?_, fun G2 H2 e1 e2 => ⟨xs, SqL.of (e2 _ _ (e1 _ _ h)), by rw [r.length]; exact Nat.le_refl _⟩⟩
  · obtain ⟨v, hv, _⟩ := r.get hd
    exact ⟨xs, v, SqL.of (e2 _ _ (e1 _ _ h)), hv⟩
  · obtain ⟨rfl, hx⟩ := hy
    obtain ⟨v, hv, rv⟩ := r.get hd
    have := hx xs (SqL.of (e2 _ _ (e1 _ _ h)))
    rw [hv] at this
    cases this
    exact ⟨G2, .refl e2, rv.up e1⟩
theorem walkH_list {K : PySem.W.Frag} {G H : Hp} {a : Addr} {xs : List V} {ds : List D} (h : H a = some (.lst xs)) (r : RpAll K G xs ds) : WalkH K (Itl K a) G H ds := by
  refine ⟨fun i d G2 H2 hd e => ?_, fun i d x G2 H2 H3 hd e hy => ?_, fun G2 H2 e => ⟨xs, SqL.of (e.hh _ _ h), by rw [r.length]; exact Nat.le_refl _⟩⟩
  · obtain ⟨v, hv, _⟩ := r.get hd
    exact ⟨xs, v, SqL.of (e.hh _ _ h), hv⟩
  · obtain ⟨rfl, hx⟩ := hy
    obtain ⟨v, hv, rv⟩ := r.get hd
    have := hx xs (SqL.of (e.hh _ _ h))
    rw [hv] at this
    cases this
    exact ⟨G2, .refl e.sub, rv.up e.gg⟩
theorem walk_tup {K : PySem.W.Frag} {G : Hp} {a : Addr} {xs : List V} {ds : List D} (h : SqT K G a xs) (r : RpAll K G xs ds) : Walk K (Itt K a) G ds := by
  refine ⟨fun i d G2 H2 hd e1 e2 => ?_, fun i d x G2 H2 H3 hd e1 e2 hy => ?_, fun G2 H2 e1 e2 => ⟨xs, TD.Same.seqT (e1.trans e2) h, by rw [r.length]; exact Nat.le_refl _⟩⟩
  · obtain ⟨v, hv, _⟩ := r.get hd
    exact ⟨xs, v, TD.Same.seqT (e1.trans e2) h, hv⟩
  · obtain ⟨rfl, hx⟩ := hy
    obtain ⟨v, hv, rv⟩ := r.get hd
    have := hx xs (TD.Same.seqT (e1.trans e2) h)
    rw [hv] at this
    cases this
    exact ⟨G2, .refl e2, rv.up e1⟩
def rngD (lo : Int) (n : Nat) : List D := (List.range n).map fun i => .int (lo + (i : Nat))
theorem rngD_get {lo : Int} {n i : Nat} {d : D} (h : (rngD lo n)[i]? = some d) : i < n ∧ d = .int (lo + (i : Nat)) := by
  unfold rngD at h
  rw [List.getElem?_map] at h
  cases e : (List.range n)[i]? with
  | none => rw [e] at h; cases h
  | some j =>
    rw [e] at h
    obtain ⟨h1, h2⟩ := List.getElem?_eq_some_iff.mp e
    rw [List.getElem_range] at h2
    subst h2
    rw [List.length_range] at h1
    cases h
    exact ⟨h1, rfl⟩
theorem rngD_len {lo : Int} {n : Nat} : (rngD lo n).length = n := by unfold rngD; rw [List.length_map, List.length_range]
theorem walk_rng {K : PySem.W.Frag} {G : Hp} {lo : Int} {n : Nat} : Walk K (Itr lo n) G (rngD lo n) := by
  refine ⟨fun i d G2 H2 hd e1 e2 => (rngD_get hd).1, fun i d x G2 H2 H3 hd e1 e2 hy => ?_, fun G2 H2 e1 e2 => by rw [rngD_len]; exact Nat.le_refl _⟩
  obtain ⟨rfl, rfl⟩ := hy
  obtain ⟨_, rfl⟩ := rngD_get hd
  exact ⟨G2, .refl e2, .int _⟩
def enumFrom (k : Nat) : List D → List D
  | [] => []
  | d :: r => .tuple [.int (k : Nat), d] :: enumFrom (k + 1) r
theorem enumFrom_len : ∀ (ds : List D) (k : Nat), (enumFrom k ds).length = ds.length
  | [], _ => rfl
  | d :: r, k => by unfold enumFrom; rw [List.length_cons, List.length_cons, enumFrom_len r]
theorem enumFrom_get : ∀ (ds : List D) (k i : Nat) (d : D), (enumFrom k ds)[i]? = some d → ∃ e, ds[i]? = some e ∧ d = .tuple [.int ((k + i : Nat) : Int), e]
  | [], _, _, _, h => by simp [enumFrom] at h
  | e :: r, k, 0, d, h => by simp [enumFrom] at h; exact ⟨e, rfl, by rw [← h]; simp⟩
  | e :: r, k, i + 1, d, h => by
    have h' : (enumFrom (k + 1) r)[i]? = some d := by simpa [enumFrom] using h
    obtain ⟨x, h1, h2⟩ := enumFrom_get r (k + 1) i d h'
    exact ⟨x, by simpa using h1, by rw [h2]; congr 3; omega⟩
theorem walk_enum {K : PySem.W.Frag} {G : Hp} {a : Addr} {xs : List V} {ds : List D} (h : G a = some (.lst xs)) (r : RpAll K G xs ds) : Walk K (Ite K a) G (enumFrom 0 ds) := by
  refine ⟨fun i d G2 H2 hd e1 e2 => ?_, fun i d x G2 H2 H3 hd e1 e2 hy => ?_, fun G2 H2 e1 e2 => ⟨xs, SqL.of (e2 _ _ (e1 _ _ h)), by rw [r.length, enumFrom_len]; exact Nat.le_refl _⟩⟩
  · obtain ⟨e, he, _⟩ := enumFrom_get ds 0 i d hd
    obtain ⟨v, hv, _⟩ := r.get he
    exact ⟨xs, v, SqL.of (e2 _ _ (e1 _ _ h)), hv⟩
  · obtain ⟨e, he, rfl⟩ := enumFrom_get ds 0 i d hd
    obtain ⟨T, y, rfl, hT, rfl, hy⟩ := hy
    obtain ⟨v, hv, rv⟩ := r.get he
    have := hy xs (SqL.of (e2 _ _ (e1 _ _ h)))
    rw [hv] at this
    cases this
    have ex := Ext.new (o := .tup [.int (i : Nat), y]) e2 hT
    rw [Nat.zero_add]
    exact ⟨_, ex, .tup (SqT.of upd_same) (.cons (.int _) (.one ((rv.up e1).up ex.gg)))⟩
def zipD : List D → List D → List D
  | a :: r, b :: s => .tuple [a, b] :: zipD r s
  | _, _ => []
theorem zipD_get : ∀ (as bs : List D) (i : Nat) (d : D), (zipD as bs)[i]? = some d → ∃ a b, as[i]? = some a ∧ bs[i]? = some b ∧ d = .tuple [a, b]
  | [], _, _, _, h => by simp [zipD] at h
  | _ :: _, [], _, _, h => by simp [zipD] at h
  | a :: r, b :: s, 0, d, h => by simp [zipD] at h; exact ⟨a, b, rfl, rfl, h.symm⟩
  | a :: r, b :: s, i + 1, d, h => by
    have h' : (zipD r s)[i]? = some d := by simpa [zipD] using h
    obtain ⟨x, y, h1, h2, h3⟩ := zipD_get r s i d h'
    exact ⟨x, y, by simpa using h1, by simpa using h2, h3⟩
theorem zipD_len : ∀ (as bs : List D), as.length ≤ (zipD as bs).length ∨ bs.length ≤ (zipD as bs).length
  | [], _ => .inl (Nat.zero_le _)
  | _ :: _, [] => .inr (Nat.zero_le _)
  | a :: r, b :: s => by
    unfold zipD
    rw [List.length_cons, List.length_cons, List.length_cons]
    rcases zipD_len r s with h | h
    · exact .inl (Nat.succ_le_succ h)
    · exact .inr (Nat.succ_le_succ h)
theorem walk_zip {K : PySem.W.Frag} {G : Hp} {a b : Addr} {xs ys : List V} {ds es : List D} (h : G a = some (.lst xs)) (h' : G b = some (.lst ys)) (r : RpAll K G xs ds) (r' : RpAll K G ys es) : Walk K (Itz K a b) G (zipD ds es) := by
  refine ⟨fun i d G2 H2 hd e1 e2 => ?_, fun i d x G2 H2 H3 hd e1 e2 hy => ?_, fun G2 H2 e1 e2 => ⟨xs, ys, SqL.of (e2 _ _ (e1 _ _ h)), SqL.of (e2 _ _ (e1 _ _ h')), by rw [r.length, r'.length]; exact zipD_len ds es⟩⟩
  · obtain ⟨x, y, hx, hy, _⟩ := zipD_get ds es i d hd
    obtain ⟨v, hv, _⟩ := r.get hx
    obtain ⟨u, hu, _⟩ := r'.get hy
    exact ⟨xs, ys, v, u, SqL.of (e2 _ _ (e1 _ _ h)), SqL.of (e2 _ _ (e1 _ _ h')), hv, hu⟩
  · obtain ⟨x, y, hx, hy', rfl⟩ := zipD_get ds es i d hd
    obtain ⟨T, p, q, rfl, hT, rfl, z1, z2⟩ := hy
    obtain ⟨v, hv, rv⟩ := r.get hx
    obtain ⟨u, hu, ru⟩ := r'.get hy'
    have t1 := z1 xs (SqL.of (e2 _ _ (e1 _ _ h)))
    have t2 := z2 ys (SqL.of (e2 _ _ (e1 _ _ h')))
    rw [hv] at t1
    rw [hu] at t2
    cases t1
    cases t2
    have ex := Ext.new (o := .tup [p, q]) e2 hT
    exact ⟨_, ex, .tup (SqT.of upd_same) (.cons ((rv.up e1).up ex.gg) (.one ((ru.up e1).up ex.gg)))⟩
theorem walk_zipT {K : PySem.W.Frag} {G : Hp} {a b : Addr} {xs ys : List V} {ds es : List D} (h : SqT K G a xs) (h' : SqT K G b ys) (r : RpAll K G xs ds) (r' : RpAll K G ys es) : Walk K (RZ.ItzT K a b) G (zipD ds es) := by
  refine ⟨fun i d G2 H2 hd e1 e2 => ?_, fun i d x G2 H2 H3 hd e1 e2 hy => ?_, fun G2 H2 e1 e2 => ⟨xs, ys, TD.Same.seqT (e1.trans e2) h, TD.Same.seqT (e1.trans e2) h', by rw [r.length, r'.length]; exact zipD_len ds es⟩⟩
  · obtain ⟨x, y, hx, hy, _⟩ := zipD_get ds es i d hd
    obtain ⟨v, hv, _⟩ := r.get hx
    obtain ⟨u, hu, _⟩ := r'.get hy
    exact ⟨xs, ys, v, u, TD.Same.seqT (e1.trans e2) h, TD.Same.seqT (e1.trans e2) h', hv, hu⟩
  · obtain ⟨x, y, hx, hy', rfl⟩ := zipD_get ds es i d hd
    obtain ⟨T, p, q, rfl, hT, rfl, z1, z2⟩ := hy
    obtain ⟨v, hv, rv⟩ := r.get hx
    obtain ⟨u, hu, ru⟩ := r'.get hy'
    have t1 := z1 xs (TD.Same.seqT (e1.trans e2) h)
    have t2 := z2 ys (TD.Same.seqT (e1.trans e2) h')
    rw [hv] at t1
    rw [hu] at t2
    cases t1
    cases t2
    have ex := Ext.new (o := .tup [p, q]) e2 hT
    exact ⟨_, ex, .tup (SqT.of upd_same) (.cons ((rv.up e1).up ex.gg) (.one ((ru.up e1).up ex.gg)))⟩

def PostI (K : PySem.W.Frag) (Wx : Str → Hp → Prop) (G H : Hp) (r : R (List D)) (Q : It → Hp → Prop) : Prop :=
  match r with
  | .ok ds => ∀ J G' H', Ext G H G' H' → Walk K J G' ds → Q J H'
  | .ex x => ∀ G' H', Ext G H G' H' → Wx x H'
  | .no => False
theorem PostI.fin {K : PySem.W.Frag} {Wx : Str → Hp → Prop} {Q : It → Hp → Prop} : Fin Wx (fun r G H => PostI K Wx G H r Q) := by
  refine ⟨fun r G H G1 H1 h e => ?_, fun _ _ _ h => h, fun _ _ h => h⟩
  cases r with
  | ok ds => exact fun J G' H' e' h1 => h J G' H' (e.trans e') h1
  | ex x => exact fun G' H' e' => h G' H' (e.trans e')
  | no => exact h
def PostJ (K : PySem.W.Frag) (Wx : Str → Hp → Prop) (G H : Hp) (r : R (List D)) (Q : It → Hp → Prop) : Prop :=
  match r with
  | .ok ds => ∀ J G' H', Ext G H G' H' → WalkH K J G' H' ds → Q J H'
  | .ex x => ∀ G' H', Ext G H G' H' → Wx x H'
  | .no => False
theorem PostJ.fin {K : PySem.W.Frag} {Wx : Str → Hp → Prop} {Q : It → Hp → Prop} : Fin Wx (fun r G H => PostJ K Wx G H r Q) := by
  refine ⟨fun r G H G1 H1 h e => ?_, fun _ _ _ h => h, fun _ _ h => h⟩
  cases r with
  | ok ds => exact fun J G' H' e' h1 => h J G' H' (e.trans e') h1
  | ex x => exact fun G' H' e' => h G' H' (e.trans e')
  | no => exact h
def tI (K : PySem.W.Frag) (mg : Str → Option Value) (W : WX) (f : EnvS → R (List D)) : TI := fun σ H Q => ∃ G ρ, Same G H ∧ EnvE K G H σ ρ ∧ PostI K (Wxo mg W σ) G H (f ρ) Q
def tJ (K : PySem.W.Frag) (mg : Str → Option Value) (W : WX) (f : EnvS → R (List D)) : TI := fun σ H Q => ∃ G ρ, Same G H ∧ EnvE K G H σ ρ ∧ PostJ K (Wxo mg W σ) G H (f ρ) Q
abbrev PID (X : Cx) (W : WX) (tg e : Expr) (f : EnvS → R (List D)) : Prop := PI X tg e (tI X.K X.mg W f)
abbrev PJD (X : Cx) (W : WX) (tg e : Expr) (f : EnvS → R (List D)) : Prop := PI X tg e (tJ X.K X.mg W f)
theorem _root_.L2.PI.wk {X : Cx} {tg e : Expr} {t t' : TI} (h : PI X tg e t) (w : ∀ σ H Q, t' σ H Q → t σ H Q) : PI X tg e t' := ⟨fun pins s σ H Q I q => h.run pins s σ H Q I (w σ H Q q)⟩
section
variable {X : Cx} {W : WX} {wr wr1 wr2 : List Nat} {pos : Pos} {tg e : Expr}
theorem j_of {f : EnvS → R (List D)} (h : PID X W tg e f) : PJD X W tg e f := L2.PI.wk h fun σ H Q ⟨G, ρ, hs, he, q⟩ => by
  refine ⟨G, ρ, hs, he, ?_⟩
  cases ef : f ρ with
  | ok ds => rw [ef] at q; exact fun J G' H' e w => q J G' H' e w.toH
  | ex x => rw [ef] at q; exact q
  | no => rw [ef] at q; exact q
def seqF (f : EnvS → R D) : EnvS → R (List D) := fun ρ => (f ρ).bind fun d => match d with
  | .list ds => .ok ds
  | .tuple ds => .ok ds
  | .str x => if lineOk x.length then .ok (x.cps.toList.map fun c => .str ⟨#[c]⟩) else .no
  | _ => .no
def iSeq (K : PySem.W.Frag) (te : TE) : TI := fun σ H R => te σ H fun v H1 => (∃ a, v = .ref a ∧ (∃ xs, SqL K H1 a xs) ∧ R (Itl K a) H1) ∨ (∃ a, v = .ref a ∧ (∃ xs, SqT K H1 a xs) ∧ R (Itt K a) H1) ∨ ∃ x, v = .str x ∧ R (Its x) H1
theorem pi_seq {te : TE} (h : PE X e te) : PI X tg e (iSeq X.K te) := by
  refine ⟨fun pins s σ H R I q => ?_⟩
  refine thn (h.run pins s σ H _ I q) fun v s1 ⟨x, H1, I1, r1, q1⟩ => ?_
  rcases q1 with ⟨a, rfl, ⟨xs, hq⟩, q⟩ | ⟨a, rfl, ⟨xs, hq⟩, q⟩ | ⟨x, rfl, q⟩
  · cases r1
    obtain ⟨its, rv, p, hz⟩ := I1.list hq
    refine wpAny_pyIter_list p.isList ?_
    refine ⟨s1.heap.objs.size, [s1.heap.objs.size], _, _, H1, rfl, I1.kept (t' := s1.toks) fun b o e => Heap.get?_push_of_some _ e, turn_list a _, ⟨_, Heap.get?_push_size _ rfl, rfl, rfl⟩, fun b hb => ?_, q⟩
    have e : b = s1.heap.objs.size := by simpa using hb
    subst e
    exact I1.fpOk (Nat.le_refl _) (I1.hok.fresh (Nat.le_refl _))
  · cases r1
    obtain ⟨its, rv, p, hz⟩ := I1.tuple hq
    refine wpAny_pyIter_tuple (show s1.heap.IsTuple a its.toArray from p) ?_
    refine ⟨s1.heap.objs.size, [s1.heap.objs.size], _, _, H1, rfl, I1.kept (t' := s1.toks) fun b o e => Heap.get?_push_of_some _ e, turn_tuple a _, ⟨_, Heap.get?_push_size _ rfl, rfl, rfl⟩, fun b hb => ?_, q⟩
    have e : b = s1.heap.objs.size := by simpa using hb
    subst e
    exact I1.fpOk (Nat.le_refl _) (I1.hok.fresh (Nat.le_refl _))
  · obtain ⟨t, rfl⟩ := r1
    cases ha : x.cps.all (· < 128)
    · exact wpAny_pyIter_wide ha (pi_one (tk := s1.toks) I1 _ (turn_str _ x t "str_iterator" (.inr rfl)) ⟨_, Heap.get?_push_size _ rfl, rfl, rfl⟩ q)
    · exact wpAny_pyIter_ascii ha (pi_one (tk := s1.toks) I1 _ (turn_str _ x t "str_ascii_iterator" (.inl rfl)) ⟨_, Heap.get?_push_size _ rfl, rfl, rfl⟩ q)
theorem walk_str {K : PySem.W.Frag} {G : Hp} {x : Str} : Walk K (Its x) G (x.cps.toList.map fun c => .str ⟨#[c]⟩) := by
  have key : ∀ (i : Nat) (d : D), (x.cps.toList.map fun c => (PyData.str ⟨#[c]⟩))[i]? = some d → ∃ c, x.cps[i]? = some c ∧ d = .str ⟨#[c]⟩ := fun i d h => by
    rw [List.getElem?_map] at h
    cases e : x.cps.toList[i]? with
    | none => rw [e] at h; cases h
    | some c => rw [e] at h; cases h; exact ⟨c, by rw [← Array.getElem?_toList]; exact e, rfl⟩
  refine ⟨fun i d G2 H2 hd e1 e2 => ?_, fun i d y G2 H2 H3 hd e1 e2 hy => ?_, fun G2 H2 e1 e2 => by show x.cps.size ≤ _; rw [List.length_map, Array.length_toList]; exact Nat.le_refl _⟩
  · obtain ⟨c, hc, _⟩ := key i d hd
    exact (Array.getElem?_eq_some_iff.mp hc).1
  · obtain ⟨rfl, c, hc, rfl⟩ := hy
    obtain ⟨c', hc', rfl⟩ := key i d hd
    rw [hc] at hc'
    cases hc'
    exact ⟨G2, .refl e2, .str _⟩
theorem i_seq {f : EnvS → R D} (h : PD X W e f) : PID X W tg e (seqF f) := (pi_seq h).wk fun σ H Q ⟨G, ρ, hs, he, q⟩ => by
  unfold seqF at q
  refine seqP PostI.fin q hs he fun a v G1 H1 _ e1 r1 he1 q1 => ?_
  cases a with
  | list ds =>
    obtain ⟨a, xs, rfl, h1, g1, p1⟩ := r1.seqL e1.sub
    exact .inl ⟨a, rfl, ⟨xs, SqL.of h1⟩, q1 _ G1 H1 (.refl e1.sub) (walk_list g1 p1)⟩
  | tuple ds =>
    obtain ⟨a, xs, rfl, h1, g1, p1⟩ := r1.seqT e1.sub
    exact .inr (.inl ⟨a, rfl, ⟨xs, h1⟩, q1 _ G1 H1 (.refl e1.sub) (walk_tup g1 p1)⟩)
  | str x =>
    cases r1
    dsimp only at q1
    split at q1
    · exact .inr (.inr ⟨x, rfl, q1 _ G1 H1 (.refl e1.sub) walk_str⟩)
    · exact q1.elim
  | _ => exact q1.elim
theorem j_lst {f : EnvS → R (List D)} (h : PDL X W e f) : PJD X W tg e f := (pi_list h).wk fun σ H Q ⟨G, ρ, hs, he, q⟩ => by
  refine ⟨G, ρ, hs, he, ?_⟩
  cases ef : f ρ with
  | ok ds =>
    rw [ef] at q
    exact fun a xs G1 H1 e1 h1 r1 => ⟨a, rfl, ⟨xs, SqL.of h1⟩, q _ G1 H1 e1 (walkH_list h1 r1)⟩
  | ex x => rw [ef] at q; exact q
  | no => rw [ef] at q; exact q
def rngOk (i : Int) : Bool := decide (-(2 ^ 62) ≤ i) && decide (i < 2 ^ 62)
def rng1F (f : EnvS → R D) : EnvS → R (List D) := fun ρ => (f ρ).bind fun d => match d with
  | .int i => if rngOk i then .ok (rngD 0 i.toNat) else .no
  | _ => .no
def rng2F (f g : EnvS → R D) : EnvS → R (List D) := fun ρ => (f ρ).bind fun d => (g ρ).bind fun d' => match d, d' with
  | .int i, .int j => if rngOk i && rngOk j then .ok (rngD i (j - i).toNat) else .no
  | _, _ => .no
theorem i_rng1 {a : Expr} {p : Pos} {f : EnvS → R D} (hm : X.mg "range" = none) (ha : PD X W a f) (hg : Gl X "range" := by rfl) (hs : starEach [a] X.env = (false, eval a X.env) :: starEach [] X.env := by rfl) : PID X W tg (.Call (.Name "range" p) [a] [] pos) (rng1F f) :=
  (pi_range1 hg hm (pa_cons ha pa_nil hs) hs).wk fun σ H Q ⟨G, ρ, hs, he, q⟩ => by
    unfold rng1F at q
    refine seqP PostI.fin q hs he fun a v G1 H1 _ e1 r1 he1 q1 => ?_
    cases a with
    | int i =>
      cases r1
      dsimp only at q1
      split at q1
      · rename_i h
        unfold rngOk at h
        rw [Bool.and_eq_true] at h
        exact ⟨i, rfl, of_decide_eq_true h.1, of_decide_eq_true h.2, q1 _ G1 H1 (.refl e1.sub) walk_rng⟩
      · exact q1.elim
    | _ => exact q1.elim
theorem i_rng2 {a b : Expr} {p : Pos} {f g : EnvS → R D} (hm : X.mg "range" = none) (ha : PD X W a f) (hb : PD X W b g) (hg : Gl X "range" := by rfl) (hs : starEach [a, b] X.env = [(false, eval a X.env), (false, eval b X.env)] := by rfl) (hs2 : starEach [b] X.env = [(false, eval b X.env)] := by rfl)
    (hs3 : starEach [a, b] X.env = (false, eval a X.env) :: starEach [b] X.env := by rfl) (hs4 : starEach [b] X.env = (false, eval b X.env) :: starEach [] X.env := by rfl) : PID X W tg (.Call (.Name "range" p) [a, b] [] pos) (rng2F f g) :=
  (pi_range2 hg hm (pa_cons ha (pa_cons hb pa_nil hs4) hs3) hs hs2).wk fun σ H Q ⟨G, ρ, hs, he, q⟩ => by
    unfold rng2F at q
    refine seqP PostI.fin q hs he fun a v G1 H1 _ e1 r1 he1 q1 => ?_
    refine seqP PostI.fin q1 e1.sub he1 fun b u G2 H2 _ e2 r2 he2 q2 => ?_
    cases a with
    | int i =>
      cases b with
      | int j =>
        cases r1; cases r2
        dsimp only at q2
        split at q2
        · rename_i h
          unfold rngOk at h
          simp only [Bool.and_eq_true, decide_eq_true_eq] at h
          exact ⟨i, j, rfl, ⟨h.1.1, h.1.2, h.2.1, h.2.2⟩, q2 _ G2 H2 (.refl e2.sub) walk_rng⟩
        · exact q2.elim
      | _ => exact q2.elim
    | _ => exact q2.elim
def enuF (f : EnvS → R D) : EnvS → R (List D) := fun ρ => (f ρ).bind fun d => match d with
  | .list ds => .ok (enumFrom 0 ds)
  | _ => .no
theorem i_enum {a : Expr} {p tpos : Pos} {elts : List Expr} {kk : Nat} {f : EnvS → R D} (hm : X.mg "enumerate" = none) (ha : PD X W a f) (hg : Gl X "enumerate" := by rfl) (hs : starEach [a] X.env = (false, eval a X.env) :: starEach [] X.env := by rfl) : PID X W (.Tuple elts kk tpos) (.Call (.Name "enumerate" p) [a] [] pos) (enuF f) :=
  (pi_enum hg hm (pa_cons ha pa_nil hs) hs).wk fun σ H Q ⟨G, ρ, hs, he, q⟩ => by
    unfold enuF at q
    refine seqP PostI.fin q hs he fun a v G1 H1 _ e1 r1 he1 q1 => ?_
    cases a with
    | list ds =>
      obtain ⟨a, xs, rfl, h1, g1, p1⟩ := r1.seqL e1.sub
      exact ⟨a, xs, rfl, SqL.of h1, q1 _ G1 H1 (.refl e1.sub) (walk_enum g1 p1)⟩
    | _ => exact q1.elim
def zipF (f g : EnvS → R D) : EnvS → R (List D) := fun ρ => (f ρ).bind fun d => (g ρ).bind fun d' => match d, d' with
  | .list ds, .list es => .ok (zipD ds es)
  | .tuple ds, .tuple es => .ok (zipD ds es)
  | _, _ => .no
theorem i_zip {a b : Expr} {p tpos : Pos} {elts : List Expr} {kk : Nat} {f g : EnvS → R D} (hm : X.mg "zip" = none) (ha : PD X W a f) (hb : PD X W b g) (hg : Gl X "zip" := by rfl)
    (hs3 : starEach [a, b] X.env = (false, eval a X.env) :: starEach [b] X.env := by rfl) (hs4 : starEach [b] X.env = (false, eval b X.env) :: starEach [] X.env := by rfl) (hpl : (backTo pos (starEach [b] X.env)).any (·.1) = false := by rfl) : PID X W (.Tuple elts kk tpos) (.Call (.Name "zip" p) [a, b] [] pos) (zipF f g) :=
  (RZ.pi_zipA hg hm (pa_cons ha (pa_cons hb pa_nil hs4) hs3) hs3 hpl).wk fun σ H Q ⟨G, ρ, hs, he, q⟩ => by
    unfold zipF at q
    refine seqP PostI.fin q hs he fun a v G1 H1 _ e1 r1 he1 q1 => ?_
    refine seqP PostI.fin q1 e1.sub he1 fun b u G2 H2 _ e2 r2 he2 q2 => ?_
    have r1 := Rp.up r1 e2.gg
    cases a with
    | list ds =>
      cases b with
      | list es =>
        obtain ⟨a, xs, rfl, h1, g1, p1⟩ := r1.seqL e2.sub
        obtain ⟨b, ys, rfl, h2, g2, p2⟩ := r2.seqL e2.sub
        exact ⟨a, b, xs, ys, rfl, .inl ⟨SqL.of h1, SqL.of h2, q2 _ G2 H2 (.refl e2.sub) (walk_zip g1 g2 p1 p2)⟩⟩
      | _ => exact q2.elim
    | tuple ds =>
      cases b with
      | tuple es =>
        obtain ⟨a, xs, rfl, h1, g1, p1⟩ := r1.seqT e2.sub
        obtain ⟨b, ys, rfl, h2, g2, p2⟩ := r2.seqT e2.sub
        exact ⟨a, b, xs, ys, rfl, .inr ⟨h1, h2, q2 _ G2 H2 (.refl e2.sub) (walk_zipT g1 g2 p1 p2)⟩⟩
      | _ => exact q2.elim
    | _ => exact q2.elim
end
end TD

/-! TdDef: for, while, comprehensions; calls of defs, raise; the rule for a def. -/
namespace TD
open PySem PySem.Spec PyProof.Rows L2
/-! ### for -/
def forO (h : D → EnvS → R EnvS) (gb : EnvS → Out) : List D → EnvS → Out
  | [], ρ => .nx ρ
  | d :: ds, ρ => match h d ρ with
    | .ok ρ1 => match gb ρ1 with
      | .nx ρ2 => forO h gb ds ρ2
      | .ct ρ2 => forO h gb ds ρ2
      | .bk ρ2 => .nx ρ2
      | .rt d => .rt d
      | .ex x ρ2 => .ex x ρ2
      | .no => .no
    | _ => .no
def loO (f : EnvS → R (List D)) (h : D → EnvS → R EnvS) (gb : EnvS → Out) : EnvS → Out := fun ρ => (f ρ).out ρ fun ds => forO h gb ds ρ
section
variable {X : Cx} {W : WX} {wr wr1 wr2 : List Nat} {pos : Pos}
theorem s_for {tg it : Expr} {body : List Stmt} {f : EnvS → R (List D)} {h : D → EnvS → R EnvS} {gb : EnvS → Out} (hp : PassesOwn (model X.prog X.w) X.A X.env X.xe) (hi : PID X W tg it f) (hg : PGD X wr1 tg h) (hb : PSsD X W wr2 body gb) (hc : X.calm = true := by rfl)
    (hs : ∀ x, foldedSetIterable it X.env x = pure x := by intro _; rfl) : PSD X W (wr1 ++ wr2) (.For tg it body [] pos) (loO f h gb) := (ps_for hp hc hi hg hb hs).wk fun Dd σ H ⟨G0, H0, G, ρ, ok, q⟩ => by
  unfold loO at q
  refine ⟨G, ρ, ok.ext.sub, ok.env, ?_⟩
  cases ef : f ρ with
  | ex x =>
    rw [ef] at q
    exact fun G1 H1 e1 cc m => q cc σ G1 H1 m (ok.step e1) e1.gg .refl
  | no => rw [ef] at q; exact q.elim
  | ok ds =>
    rw [ef] at q
    intro J G1 H1 e1 w
    have q : PostS X.K X.mg W G0 H0 (wr1 ++ wr2) σ ρ G1 (forO h gb ds ρ) Dd := PostS.later q (fun _ h => h) e1.gg .refl
    let Wv : Nat → L2.St → Hp → Prop := fun i σ' H' => ∃ G' ρ', StOk X.K G0 H0 G' H' σ' ρ' ∧ Same G1 G' ∧ Fr (wr1 ++ wr2) σ ρ σ' ρ' ∧ PostS X.K X.mg W G0 H0 (wr1 ++ wr2) σ' ρ' G' (forO h gb (ds.drop i) ρ') Dd
    refine ⟨fun i m σ' H' => m = ds.length - i ∧ i ≤ ds.length ∧ Wv i σ' H', ⟨ds.length, by omega, Nat.zero_le _, G1, ρ, ok.step e1, .refl _, .refl, q⟩, ?_⟩
    rintro i m σ' H' ⟨rfl, hi, G', ρ', ok', s', fr', q'⟩
    by_cases hlt : i < ds.length
    · have hd : ds[i]? = some ds[i] := List.getElem?_eq_getElem hlt
      refine .inr ⟨w.go i _ G' H' hd s' ok'.ext.sub, Wv (i + 1), fun σ2 H2 p2 => ⟨ds.length - (i + 1), by omega, rfl, hlt, p2⟩, fun x H3 hy => ?_⟩
      obtain ⟨G3, e3, r3⟩ := w.yld i _ x G' H' H3 hd s' ok'.ext.sub hy
      have hdr : ds.drop i = ds[i] :: ds.drop (i + 1) := List.drop_eq_getElem_cons hlt
      rw [hdr] at q'
      unfold forO at q'
      cases eh : h ds[i] ρ' with
      | ex x => rw [eh] at q'; exact q'.elim
      | no => rw [eh] at q'; exact q'.elim
      | ok ρ1 =>
        rw [eh] at q'
        dsimp only at q'
        have ok3 := ok'.step e3
        refine ⟨G3, ρ', ds[i], e3.sub, ok3.len, ok3.env, r3, ρ1, eh, fun σ1 p1 => ?_⟩
        refine ⟨G0, H0, G3, ρ1, ok3.puts p1, ?_⟩
        have f1 : Fr (wr1 ++ wr2) σ' ρ' σ1 ρ1 := p1.fr.mono fun i h => List.mem_append_left _ h
        have m2 : ∀ {σ2 ρ2}, Fr wr2 σ1 ρ1 σ2 ρ2 → Fr (wr1 ++ wr2) σ' ρ' σ2 ρ2 := fun h => f1.trans (h.mono fun i h => List.mem_append_right _ h)
        cases eg : gb ρ1 with
        | nx ρ2 =>
          rw [eg] at q'
          exact fun σ2 G2 H2 o2 s2 f2 => ⟨G2, ρ2, o2, (s'.trans e3.gg).trans s2, fr'.trans (m2 f2), PostS.later q' (fun _ h => h) (e3.gg.trans s2) (m2 f2)⟩
        | ct ρ2 =>
          rw [eg] at q'
          exact fun σ2 G2 H2 o2 s2 f2 => ⟨G2, ρ2, o2, (s'.trans e3.gg).trans s2, fr'.trans (m2 f2), PostS.later q' (fun _ h => h) (e3.gg.trans s2) (m2 f2)⟩
        | bk ρ2 =>
          rw [eg] at q'
          exact fun σ2 G2 H2 o2 s2 f2 => q' σ2 G2 H2 o2 (e3.gg.trans s2) (m2 f2)
        | rt d => rw [eg] at q'; exact q'
        | ex x ρ2 =>
          rw [eg] at q'
          exact fun cc σ2 G2 H2 mm o2 s2 f2 => q' cc σ2 G2 H2 mm o2 (e3.gg.trans s2) (m2 f2)
        | no => rw [eg] at q'; exact q'
    · have e : i = ds.length := by omega
      subst e
      rw [List.drop_length] at q'
      exact .inl ⟨w.stop G' H' s' ok'.ext.sub, q' σ' G' H' ok' (.refl _) .refl⟩
/-- over one's own list, which the body leaves as it is -/
theorem s_forOwn (k : Nat) {tg : Expr} {x : Str} {p : Pos} {body : List Stmt} {h : D → EnvS → R EnvS} {gb : EnvS → Out} (hp : PassesOwn (model X.prog X.w) X.A X.env X.xe) (hg : PGD X wr1 tg h) (hb : PSsD X W wr2 body gb) (hk : k ∉ wr1 ++ wr2 := by decide) (hc : X.calm = true := by rfl)
    (hN : X.N[k]? = some x := by rfl) (hv : Vis X.env.scope x := by first | exact Or.inl rfl | exact Or.inr (Or.inl rfl) | exact Or.inr (Or.inr rfl)) (hd : (x == ("__debug__" : Str)) = false := by decide)
    (hcd : (x == ("__classdict__" : Str)) = false := by decide)
    (hs : ∀ v, foldedSetIterable (.Name x p) X.env v = pure v := by intro _; rfl) : PSD X W (wr1 ++ wr2) (.For tg (.Name x p) body [] pos) (loO (ownD k) h gb) := (ps_for hp hc (pi_list (pe_var hN hv hd hcd)) hg hb hs).wk fun Dd σ H ⟨G0, H0, G, ρ, ok, q⟩ => by
  unfold loO ownD at q
  cases e : ρ[k]? with
  | none => simp only [e] at q; exact q.elim
  | some o =>
    cases o with
    | none => simp only [e] at q; exact q.elim
    | some d =>
      cases d with
      | pu d => simp only [e] at q; exact q.elim
      | ow ds =>
        simp only [e] at q
        have q : PostS X.K X.mg W G0 H0 (wr1 ++ wr2) σ ρ G (forO h gb ds ρ) Dd := q
        obtain ⟨a, xs, hsk, ha, na, ra⟩ := ok.env.ow k ds e
        refine ⟨_, hsk, a, rfl, ⟨xs, SqL.of ha⟩, ?_⟩
        let Wv : Nat → L2.St → Hp → Prop := fun i σ' H' => ∃ G' ρ', StOk X.K G0 H0 G' H' σ' ρ' ∧ Same G G' ∧ Fr (wr1 ++ wr2) σ ρ σ' ρ' ∧ PostS X.K X.mg W G0 H0 (wr1 ++ wr2) σ' ρ' G' (forO h gb (ds.drop i) ρ') Dd
        refine ⟨fun i m σ' H' => m = ds.length - i ∧ i ≤ ds.length ∧ Wv i σ' H', ⟨ds.length, by omega, Nat.zero_le _, G, ρ, ok, .refl _, .refl, q⟩, ?_⟩
        rintro i m σ' H' ⟨rfl, hi, G', ρ', ok', s', fr', q'⟩
        have ek : ρ'[k]? = some (some (.ow ds)) := (fr' k hk).2.trans e
        obtain ⟨a', ys, hsk', ha', na', ra'⟩ := ok'.env.ow k ds ek
        have ea : a' = a := by
          have := (fr' k hk).1.trans hsk
          rw [hsk'] at this
          cases this
          rfl
        subst ea
        by_cases hlt : i < ds.length
        · have hd : ds[i]? = some ds[i] := List.getElem?_eq_getElem hlt
          obtain ⟨v, hv, rv⟩ := ra'.get hd
          refine .inr ⟨⟨ys, v, SqL.of ha', hv⟩, Wv (i + 1), fun σ2 H2 p2 => ⟨ds.length - (i + 1), by omega, rfl, hlt, p2⟩, fun x H3 hy => ?_⟩
          obtain ⟨rfl, hx⟩ := hy
          have hx := hx ys (SqL.of ha')
          rw [hv] at hx
          cases hx
          have hdr : ds.drop i = ds[i] :: ds.drop (i + 1) := List.drop_eq_getElem_cons hlt
          rw [hdr] at q'
          unfold forO at q'
          cases eh : h ds[i] ρ' with
          | ex x => rw [eh] at q'; exact q'.elim
          | no => rw [eh] at q'; exact q'.elim
          | ok ρ1 =>
            rw [eh] at q'
            dsimp only at q'
            refine ⟨G', ρ', ds[i], ok'.ext.sub, ok'.len, ok'.env, rv, ρ1, eh, fun σ1 p1 => ?_⟩
            refine ⟨G0, H0, G', ρ1, ok'.puts p1, ?_⟩
            have f1 : Fr (wr1 ++ wr2) σ' ρ' σ1 ρ1 := p1.fr.mono fun i h => List.mem_append_left _ h
            have m2 : ∀ {σ2 ρ2}, Fr wr2 σ1 ρ1 σ2 ρ2 → Fr (wr1 ++ wr2) σ' ρ' σ2 ρ2 := fun h => f1.trans (h.mono fun i h => List.mem_append_right _ h)
            cases eg : gb ρ1 with
            | nx ρ2 =>
              rw [eg] at q'
              exact fun σ2 G2 H2 o2 s2 f2 => ⟨G2, ρ2, o2, s'.trans s2, fr'.trans (m2 f2), PostS.later q' (fun _ h => h) s2 (m2 f2)⟩
            | ct ρ2 =>
              rw [eg] at q'
              exact fun σ2 G2 H2 o2 s2 f2 => ⟨G2, ρ2, o2, s'.trans s2, fr'.trans (m2 f2), PostS.later q' (fun _ h => h) s2 (m2 f2)⟩
            | bk ρ2 =>
              rw [eg] at q'
              exact fun σ2 G2 H2 o2 s2 f2 => q' σ2 G2 H2 o2 s2 (m2 f2)
            | rt d => rw [eg] at q'; exact q'
            | ex x ρ2 =>
              rw [eg] at q'
              exact fun cc σ2 G2 H2 mm o2 s2 f2 => q' cc σ2 G2 H2 mm o2 s2 (m2 f2)
            | no => rw [eg] at q'; exact q'
        · have ei : i = ds.length := by omega
          subst ei
          rw [List.drop_length] at q'
          exact .inl ⟨⟨ys, SqL.of ha', by rw [ra'.length]; exact Nat.le_refl _⟩, q' σ' G' H' ok' (.refl _) .refl⟩
end
/-! ### while -/
def whO (c : EnvS → R Bool) (gb : EnvS → Out) : Nat → EnvS → Out
  | 0, _ => .no
  | n + 1, ρ => (c ρ).out ρ fun b => if b = true then (match gb ρ with
      | .nx ρ2 => whO c gb n ρ2
      | .ct ρ2 => whO c gb n ρ2
      | .bk ρ2 => .nx ρ2
      | .rt d => .rt d
      | .ex x ρ2 => .ex x ρ2
      | .no => .no) else .nx ρ
theorem whO_more (c : EnvS → R Bool) (gb : EnvS → Out) : ∀ (n : Nat) (ρ : EnvS), whO c gb n ρ ≠ .no → whO c gb (n + 1) ρ = whO c gb n ρ
  | 0, ρ, h => absurd rfl h
  | n + 1, ρ, h => by
    have step : ∀ m, whO c gb (m + 1) ρ = (c ρ).out ρ fun b => if b = true then (match gb ρ with
      | .nx ρ2 => whO c gb m ρ2
      | .ct ρ2 => whO c gb m ρ2
      | .bk ρ2 => .nx ρ2
      | .rt d => .rt d
      | .ex x ρ2 => .ex x ρ2
      | .no => .no) else .nx ρ := fun m => rfl
    rw [step n] at h
    rw [step (n + 1), step n]
    cases e : c ρ with
    | ok b =>
      rw [e] at h
      cases b with
      | true =>
        simp only [R.out, if_true] at h ⊢
        cases eg : gb ρ with
        | nx ρ2 => rw [eg] at h; exact whO_more c gb n ρ2 h
        | ct ρ2 => rw [eg] at h; exact whO_more c gb n ρ2 h
        | _ => rfl
      | false => rfl
    | ex x => rfl
    | no => rfl
theorem whO_plus {c : EnvS → R Bool} {gb : EnvS → Out} {n : Nat} {ρ : EnvS} (h : whO c gb n ρ ≠ .no) : ∀ k, whO c gb (n + k) ρ = whO c gb n ρ
  | 0 => rfl
  | k + 1 => by
    have := whO_plus h k
    rw [← Nat.add_assoc, whO_more c gb (n + k) ρ (by rw [this]; exact h), this]
noncomputable def whX (c : EnvS → R Bool) (gb : EnvS → Out) : EnvS → Out := fun ρ =>
  open Classical in if h : ∃ n, whO c gb n ρ ≠ .no then whO c gb (Classical.choose h) ρ else .no
theorem whX_eq {c : EnvS → R Bool} {gb : EnvS → Out} {ρ : EnvS} {o : Out} (n : Nat) (h : whO c gb n ρ = o) (ho : o ≠ .no) : whX c gb ρ = o := by
  have ex : ∃ n, whO c gb n ρ ≠ .no := ⟨n, by rw [h]; exact ho⟩
  unfold whX
  rw [dif_pos ex]
  have hc := Classical.choose_spec ex
  have hn : whO c gb n ρ ≠ .no := by rw [h]; exact ho
  have e1 := whO_plus hc n
  have e2 := whO_plus hn (Classical.choose ex)
  rw [Nat.add_comm] at e1
  rw [← e1, e2, h]
section
variable {X : Cx} {W : WX} {wr : List Nat} {pos : Pos}
theorem s_while {c : Expr} {body : List Stmt} {t : EnvS → R Bool} {gb : EnvS → Out} (hp : PassesOwn (model X.prog X.w) X.A X.env X.xe) (hc : PTD X W c t) (hb : PSsD X W wr body gb) : PSD X W wr (.While c body [] pos) (whX t gb) := (ps_while hp hc hb).wk fun Dd σ H ⟨G0, H0, G, ρ, ok, q⟩ => by
  unfold whX at q
  split at q
  · rename_i ex
    generalize Classical.choose ex = n at q
    refine ⟨fun m σ' H' => ∃ G' ρ', StOk X.K G0 H0 G' H' σ' ρ' ∧ Same G G' ∧ Fr wr σ ρ σ' ρ' ∧ PostS X.K X.mg W G0 H0 wr σ' ρ' G' (whO t gb m ρ') Dd, ⟨n, G, ρ, ok, .refl _, .refl, q⟩, ?_⟩
    rintro m σ' H' ⟨G', ρ', ok', s', fr', q'⟩
    cases m with
    | zero => exact q'.elim
    | succ m =>
      unfold whO at q'
      refine outE q' ok' fun b v G1 H1 _ e1 r1 ok1 q1 => ?_
      cases r1
      cases b with
      | true =>
        simp only [if_true] at q1
        refine ⟨fun σ2 H2 => ∃ G2 ρ2, StOk X.K G0 H0 G2 H2 σ2 ρ2 ∧ Same G G2 ∧ Fr wr σ ρ σ2 ρ2 ∧ PostS X.K X.mg W G0 H0 wr σ2 ρ2 G2 (whO t gb m ρ2) Dd, fun σ2 H2 p => ⟨m, Nat.lt_succ_self m, p⟩, ?_⟩
        refine ⟨G0, H0, G1, ρ', ok1, ?_⟩
        cases eg : gb ρ' with
        | nx ρ2 =>
          rw [eg] at q1
          exact fun σ2 G2 H2 o2 s2 f2 => ⟨G2, ρ2, o2, (s'.trans e1.gg).trans s2, fr'.trans f2, PostS.later q1 (fun _ h => h) s2 f2⟩
        | ct ρ2 =>
          rw [eg] at q1
          exact fun σ2 G2 H2 o2 s2 f2 => ⟨G2, ρ2, o2, (s'.trans e1.gg).trans s2, fr'.trans f2, PostS.later q1 (fun _ h => h) s2 f2⟩
        | bk ρ2 => rw [eg] at q1; exact fun σ2 G2 H2 o2 s2 f2 => q1 σ2 G2 H2 o2 s2 f2
        | rt d => rw [eg] at q1; exact q1
        | ex x ρ2 => rw [eg] at q1; exact fun cc σ2 G2 H2 mm o2 s2 f2 => q1 cc σ2 G2 H2 mm o2 s2 f2
        | no => rw [eg] at q1; exact q1
      | false => exact q1 σ' G1 H1 ok1 (.refl _) .refl
  · exact q.elim
end
/-! ### comprehensions -/
def wipeS (ρ : EnvS) : List Nat → EnvS
  | [] => ρ
  | v :: vs => (wipeS ρ vs).set v none
def compO (h : D → EnvS → R EnvS) (t : EnvS → R Bool) (fe : EnvS → R D) : List D → EnvS → R (List D)
  | [], _ => .ok []
  | d :: ds, ρ => match h d ρ with
    | .ok ρ1 => match t ρ1 with
      | .ok true => match fe ρ1 with
        | .ok y => match compO h t fe ds ρ with
          | .ok ys => .ok (y :: ys)
          | _ => .no
        | _ => .no
      | .ok false => compO h t fe ds ρ
      | _ => .no
    | _ => .no
def lcF (f : EnvS → R (List D)) (h : D → EnvS → R EnvS) (t : EnvS → R Bool) (fe : EnvS → R D) (vs : List Nat) : EnvS → R (List D) := fun ρ => (f ρ).bind fun ds => if lineOk ds.length then compO h t fe ds (wipeS ρ vs) else .no
abbrev W0 : WX := fun _ _ _ _ => False
theorem wipe_env {K : PySem.W.Frag} {G H : Hp} {σ : L2.St} {ρ : EnvS} (he : EnvE K G H σ ρ) : ∀ vs : List Nat, EnvE K G H (wipe σ vs) (wipeS ρ vs)
  | [] => he
  | v :: vs => by
    have ih := wipe_env he vs
    unfold wipe wipeS
    refine ⟨fun i d h => ?_, fun i ds h => ?_, by rw [List.length_set, List.length_set]; exact ih.len⟩
    · rcases get_set h with ⟨_, e, _⟩ | ⟨hj, h⟩
      · cases e
      · rw [List.getElem?_set_ne (Ne.symm hj)]; exact ih.pu i d h
    · rcases get_set h with ⟨_, e, _⟩ | ⟨hj, h⟩
      · cases e
      · rw [List.getElem?_set_ne (Ne.symm hj)]; exact ih.ow i ds h
theorem wipe_get {σ : L2.St} {i : Nat} : ∀ {vs : List Nat}, i ∉ vs → (wipe σ vs)[i]? = σ[i]?
  | [], _ => rfl
  | v :: vs, h => by
    have h1 : i ≠ v := fun e => h (by rw [e]; exact List.mem_cons_self)
    have h2 : i ∉ vs := fun e => h (List.mem_cons_of_mem _ e)
    unfold wipe
    rw [List.getElem?_set_ne (Ne.symm h1), wipe_get h2]
theorem wipe_in {σ : L2.St} {i : Nat} : ∀ {vs : List Nat}, i ∈ vs → i < σ.length → (wipe σ vs)[i]? = some none
  | v :: vs, h, hl => by
    unfold wipe
    by_cases e : v = i
    · subst e
      exact List.getElem?_set_self (by rw [wipe_length]; exact hl)
    · rw [List.getElem?_set_ne e]
      refine wipe_in ?_ hl
      rcases List.mem_cons.mp h with z | z
      · exact absurd z.symm e
      · exact z
theorem wipe_wipe {σ σ2 : L2.St} {vs : List Nat} (hl : σ2.length = σ.length) (h : ∀ i, i ∉ vs → σ2[i]? = (wipe σ vs)[i]?) : wipe σ2 vs = wipe σ vs := by
  apply List.ext_getElem?
  intro i
  by_cases hi : i ∈ vs
  · by_cases hlt : i < σ.length
    · rw [wipe_in hi hlt, wipe_in hi (by rw [hl]; exact hlt)]
    · rw [List.getElem?_eq_none (by rw [wipe_length]; omega), List.getElem?_eq_none (by rw [wipe_length]; omega)]
  · rw [wipe_get hi, h i hi]
theorem tLc_of {X : Cx} {W : WX} {f : EnvS → R (List D)} {wr vs : List Nat} {h : D → EnvS → R EnvS} {t : EnvS → R Bool} {fe : EnvS → R D} (hwr : ∀ i, i ∈ wr → i ∈ vs) {σ : L2.St} {H : Hp} {Q : VK}
    (q : tN X.K X.mg W (lcF f h t fe vs) σ H Q) : tLc (tJ X.K X.mg W f) (tG X.K wr h) (tD X.K X.mg W0 rpB t) (tD X.K X.mg W0 (rpE X.K) fe) vs σ H Q := by
  obtain ⟨G, ρ, hs, he, q⟩ := q
  unfold lcF at q
  refine ⟨G, ρ, hs, he, ?_⟩
  cases ef : f ρ with
  | ex x => rw [ef] at q; exact q
  | no => rw [ef] at q; exact q
  | ok ds =>
    rw [ef] at q
    dsimp only [R.bind] at q
    split at q
    · rename_i hline
      intro J G1 H1 e1 w L hL
      have he1 := he.up e1
      have q := PostN.fin.later _ _ _ _ _ q e1
      have nG1 : G1 L = none := e1.sub.free hL
      cases ec : compO h t fe ds (wipeS ρ vs) with
      | ex x => 
        exact absurd ec (by
          have : ∀ ds : List D, compO h t fe ds (wipeS ρ vs) ≠ .ex x := by
            intro ds
            induction ds with
            | nil => intro z; cases z
            | cons d r ih =>
              unfold compO
              intro z
              split at z
              · split at z
                · split at z
                  · split at z <;> cases z
                  · cases z
                · exact ih z
                · cases z
              · cases z
          exact this ds)
      | no => rw [ec] at q; exact q.elim
      | ok all =>
        rw [ec] at q
        have q : ∀ q' xs G' H', Ext G1 H1 G' H' → H1 q' = none → G' q' = none → H' q' = some (.lst xs) → RpAll X.K G' xs all → Q (.ref q') H' := q
        let Wv : Nat → Hp → Prop := fun i H' => ∃ G' acc as rest, Ext G1 H1 G' H' ∧ G' L = none ∧ H' L = some (.lst acc) ∧ RpAll X.K G' acc as ∧ acc.length ≤ i ∧ compO h t fe (ds.drop i) (wipeS ρ vs) = .ok rest ∧ all = as ++ rest
        refine ⟨fun i m H' => m = ds.length - i ∧ i ≤ ds.length ∧ Wv i H', ⟨ds.length, by omega, Nat.zero_le _, G1, [], [], all, Ext.newH e1.sub hL, nG1, upd_same, .nil, Nat.le_refl _, ec, rfl⟩, ?_⟩
        rintro i m H' ⟨rfl, hi, G', acc, as, rest, e', nG', hL', ra, hacc, ec', eall⟩
        by_cases hlt : i < ds.length
        · have hd : ds[i]? = some ds[i] := List.getElem?_eq_getElem hlt
          refine .inr ⟨w.go i _ G' H' hd e', Wv (i + 1), fun H2 p2 => ⟨ds.length - (i + 1), by omega, rfl, hlt, p2⟩, fun x H3 hy => ?_⟩
          obtain ⟨G3, e3, r3⟩ := w.yld i _ x G' H' H3 hd e' hy
          have hdr : ds.drop i = ds[i] :: ds.drop (i + 1) := List.drop_eq_getElem_cons hlt
          rw [hdr] at ec'
          unfold compO at ec'
          have e13 := e'.trans e3
          have env3 := wipe_env (he1.up e13) vs
          have nL : ∀ {Ga Ha Gb Hb : Hp}, Ext Ga Ha Gb Hb → Ga L = none → Ha L = some (.lst acc) → Gb L = none ∧ Hb L = some (.lst acc) := fun {Ga Ha Gb Hb} ee z1 z2 => by
            refine ⟨?_, ee.hh _ _ z2⟩
            by_cases z : Gb L = none
            · exact z
            · rw [ee.fr L z1 z] at z2; cases z2
          obtain ⟨n3, h3⟩ := nL e3 nG' hL'
          cases eh : h ds[i] (wipeS ρ vs) with
          | ex x => rw [eh] at ec'; cases ec'
          | no => rw [eh] at ec'; cases ec'
          | ok ρ1 =>
            rw [eh] at ec'
            dsimp only at ec'
            refine ⟨G3, wipeS ρ vs, ds[i], e3.sub, env3.len, env3, r3, ρ1, eh, fun σ1 p1 => ⟨wipe_wipe (by rw [p1.len', wipe_length]) fun j hj => (p1.fr j fun z => hj (hwr j z)).1, ?_⟩⟩
            cases et : t ρ1 with
            | ex x => rw [et] at ec'; cases ec'
            | no => rw [et] at ec'; cases ec'
            | ok b =>
              rw [et] at ec'
              refine ⟨G3, ρ1, e3.sub, p1.env, ?_⟩
              rw [et]
              intro v G4 H4 e4 rv
              cases rv
              obtain ⟨n4, h4⟩ := nL e4 n3 h3
              cases b with
              | true =>
                dsimp only at ec'
                rw [if_pos rfl]
                refine ⟨G4, ρ1, e4.sub, p1.env.up e4, ?_⟩
                cases ee : fe ρ1 with
                | ex x => rw [ee] at ec'; cases ec'
                | no => rw [ee] at ec'; cases ec'
                | ok y =>
                  rw [ee] at ec'
                  intro v G5 H5 e5 r5
                  obtain ⟨n5, h5⟩ := nL e5 n4 h4
                  have e15 := (e13.trans e4).trans e5
                  cases er : compO h t fe (ds.drop (i + 1)) (wipeS ρ vs) with
                  | ex x => rw [er] at ec'; cases ec'
                  | no => rw [er] at ec'; cases ec'
                  | ok ys =>
                    rw [er] at ec'
                    cases ec'
                    refine ⟨acc, h5, Nat.lt_of_le_of_lt hacc (Nat.lt_of_lt_of_le hlt (lineOk_le hline)), G5, acc ++ [v], as ++ [y], ys, ⟨fun b o hb => ?_, fun b o hb => ?_, e15.gg, e15.fr⟩, n5, upd_same, (ra.up ((e3.gg.trans e4.gg).trans e5.gg)).append (.one r5), by rw [List.length_append, List.length_singleton]; omega, er, by rw [eall, List.append_assoc]; rfl⟩
                    · rw [upd_ne (ne_of_none hb n5)]; exact e15.sub _ _ hb
                    · rw [upd_ne (ne_of_none hb hL)]; exact e15.hh _ _ hb
              | false =>
                dsimp only at ec'
                rw [if_neg Bool.false_ne_true]
                exact ⟨G4, acc, as, rest, e13.trans e4, n4, h4, ra.up (e3.gg.trans e4.gg), by omega, ec', eall⟩
        · have ei : i = ds.length := by omega
          subst ei
          rw [List.drop_length] at ec'
          cases ec'
          rw [List.append_nil] at eall
          subst eall
          exact .inl ⟨w.stop G' H' e', q L acc G' H' e' hL nG' hL' ra⟩
    · exact q.elim
section
variable {X : Cx} {W : WX} {wr : List Nat} {pos : Pos}
theorem n_lc {elt tg it : Expr} {ifs : List Expr} {scope : Scope} {own : List (Str × Nat)} {vs : List Nat} {f : EnvS → R (List D)} {h : D → EnvS → R EnvS} {t : EnvS → R Bool} {fe : EnvS → R D} (hN : X.N.Nodup) (hi : PJD X W tg it f) (ok : BlkOk X.N X.env.scope scope own)
    (hg : ∀ (s : Shared) (H : Hp) (C : Addr) (cl : List (Str × Addr)) (fp : List Addr), PGD (X.blk s H scope (compEnvC scope cl C X.env) fp) wr tg h) (ht : ∀ (s : Shared) (H : Hp) (C : Addr) (cl : List (Str × Addr)) (fp : List Addr), PTs (X.blk s H scope (compEnvC scope cl C X.env) fp) ifs (tD X.K X.mg W0 rpB t))
    (he : ∀ (s : Shared) (H : Hp) (C : Addr) (cl : List (Str × Addr)) (fp : List Addr), PD (X.blk s H scope (compEnvC scope cl C X.env) fp) W0 elt fe) (hvs : own.map (·.2) = vs := by rfl) (hwr : ∀ i, i ∈ wr → i ∈ vs := by decide) (hc : X.calm = true := by rfl) (hs : ∀ x, foldedSetIterable it X.env x = pure x := by intro _; rfl) :
    PDN X W (.ListComp elt [⟨tg, it, ifs, 0⟩] scope pos) (lcF f h t fe vs) := (pe_lc hc hN hi ok hg ht he hs).wk fun σ H Q q => by subst hvs; exact tLc_of hwr q
theorem p_lc {i : Nat} {y : Str} {py spos : Pos} {elt tg it : Expr} {ifs : List Expr} {scope : Scope} {own : List (Str × Nat)} {vs : List Nat} {f : EnvS → R (List D)} {h : D → EnvS → R EnvS} {t : EnvS → R Bool} {fe : EnvS → R D} (hN : X.N.Nodup) (hi : PJD X W tg it f) (ok : BlkOk X.N X.env.scope scope own)
    (hg : ∀ (s : Shared) (H : Hp) (C : Addr) (cl : List (Str × Addr)) (fp : List Addr), PGD (X.blk s H scope (compEnvC scope cl C X.env) fp) wr tg h) (ht : ∀ (s : Shared) (H : Hp) (C : Addr) (cl : List (Str × Addr)) (fp : List Addr), PTs (X.blk s H scope (compEnvC scope cl C X.env) fp) ifs (tD X.K X.mg W0 rpB t))
    (he : ∀ (s : Shared) (H : Hp) (C : Addr) (cl : List (Str × Addr)) (fp : List Addr), PD (X.blk s H scope (compEnvC scope cl C X.env) fp) W0 elt fe) (hvs : own.map (·.2) = vs := by rfl) (hwr : ∀ i, i ∈ wr → i ∈ vs := by decide) (hc : X.calm = true := by rfl) (hy : X.N[i]? = some y := by rfl) (hyl : X.env.scope.names.lookup y = some .local := by rfl)
    (hsw : swapsWith (.ListComp elt [⟨tg, it, ifs, 0⟩] scope pos) (some (.Name y py)) spos.line X.env = pure true := by exact sw_true rfl rfl rfl (by decide +kernel)) (hs : ∀ x, foldedSetIterable it X.env x = pure x := by intro _; rfl) :
    PS X (.Assign [.Name y py] (.ListComp elt [⟨tg, it, ifs, 0⟩] scope pos) spos) (tAsg (tN X.K X.mg W (lcF f h t fe vs)) (gName i)) := (ps_setLc hc hN hy hyl hsw hi ok hg ht he hs).wk fun Dd σ H q => by subst hvs; exact tLc_of hwr q
def yesB : EnvS → R Bool := fun _ => .ok true
theorem ts_nil : PTs X [] (tD X.K X.mg W0 rpB yesB) := ⟨fun pins s σ H Q I ⟨G, ρ, hs, he, q⟩ => pts_nil.run pins s σ H Q I (Post.done (rp := rpB) q hs rfl)⟩
theorem ts_one {c : Expr} {t : EnvS → R Bool} (h : PTD X W0 c t) : PTs X [c] (tD X.K X.mg W0 rpB t) := pts_one h

/-! ### defs -/
/-- the promise of a def that is a function of data -/
def spD (K : PySem.W.Frag) (mg : Str → Option Value) (n : Nat) (F : List D → R D) : Sp := fun vs H Q E => ∃ G ds, Same G H ∧ RpAll K G vs ds ∧ ds.length = n ∧ Post (rpE K) (fun x H' => ∀ c, mg x = some c → E c none H') G H (F ds) Q
/-- what the def at f is: a function of data -/
abbrev FnD (P : Program) (w : World) (K : PySem.W.Frag) (mg : Str → Option Value) (base : Heap) (k : Nat) (f : Addr) (fd : FuncData) (ps : List Str) (F : List D → R D) : Prop := FnOk P w K mg base (L2.CX P w) k f fd ps (spD K mg ps.length F)
def callU (n : Nat) (F : List D → R D) (g : EnvS → R (List D)) : EnvS → R D := fun ρ => (g ρ).bind fun as => if as.length = n then F as else .no
theorem d_call {k n : Nat} {f : Addr} {fd : FuncData} {ps : List Str} {F : List D → R D} {x : Str} {p : Pos} {e : Expr} {es : List Expr} {g : EnvS → R (List D)} (G : FnD X.prog X.w X.K X.mg X.base k f fd ps F) (hr : Room k X.A) (tk : Takes X W) (hm : X.mg x = some (.ref f)) (hk : PySem.W.keepIn X.K (.ref f) = true) (hb : Binds X.K fd ps [])
    (ha : PAD X W (e :: es) g) (hn : ps.length = n := by rfl) (hg : Gl X x := by rfl) (hdb : (x == ("__debug__" : Str)) = false := by decide) (he : starEach (e :: es) X.env = (false, eval e X.env) :: starEach es X.env := by rfl) (hpl : (backTo pos (starEach es X.env)).any (·.1) = false := by rfl) :
    PD X W (.Call (.Name x p) (e :: es) [] pos) (callU n F g) :=
  (pe_callS G hr hg hm hk hb (fun σ => passAt tk σ) ha hdb he hpl).wk fun σ H Q ⟨G, ρ, hs, he, q⟩ => by
    subst hn
    unfold callU at q
    refine Post.seq q hs he fun as vs G1 H1 _ e1 r1 he1 q1 => ?_
    split at q1
    · rename_i hl
      exact ⟨G1, as, e1.sub, r1, hl, q1⟩
    · exact q1.elim
/-- f() -/
theorem d_call0 {k : Nat} {f : Addr} {fd : FuncData} {F : List D → R D} {x : Str} {p : Pos} (G : FnD X.prog X.w X.K X.mg X.base k f fd [] F) (hr : Room k X.A) (tk : Takes X W) (hm : X.mg x = some (.ref f)) (hk : PySem.W.keepIn X.K (.ref f) = true) (hb : Binds X.K fd [] [])
    (hg : Gl X x := by rfl) (hdb : (x == ("__debug__" : Str)) = false := by decide) :
    PD X W (.Call (.Name x p) [] [] pos) (fun _ => F []) := by
  refine ⟨fun pins s σ H Q I ⟨G1, ρ, hs, he, q⟩ => ?_⟩
  refine wpAny_Call_Name_kw (ld_glob I hg hm ?_ hdb)
  exact PySem.W.callWith_K0 I.kIn hk (run_fnS (us := []) (E := WE W) G hr hb (passAt tk σ) I .nil ⟨G1, [], hs, .nil, rfl, q⟩)
def argS (n : Nat) (ds : List D) : EnvS := ds.map (fun d => some (.pu d)) ++ List.replicate (n - ds.length) none
def fnR (n : Nat) (g : EnvS → Out) (ds : List D) : R D := match g (argS n ds) with
  | .rt d => .ok d
  | .nx _ => .ok .none
  | .ex x _ => .ex x
  | _ => .no
end
section
variable {P : Program} {w : World} {K : PySem.W.Frag} {mg : Str → Option Value} {base : Heap}
theorem start_get {N : List Str} {vs : List V} {i : Nat} {v : V} (h : vs[i]? = some v) : (L2.start N vs)[i]? = some (some v) := by
  unfold L2.start
  have hl := (List.getElem?_eq_some_iff.mp h).1
  rw [List.getElem?_append_left (by simpa using hl), List.getElem?_map, h]
  rfl
theorem argS_get {n : Nat} {ds : List D} {i : Nat} {s : Sl} (h : (argS n ds)[i]? = some (some s)) : ∃ d, ds[i]? = some d ∧ s = .pu d := by
  unfold argS at h
  by_cases hl : i < ds.length
  · rw [List.getElem?_append_left (by simpa using hl), List.getElem?_map] at h
    cases e : ds[i]? with
    | none => rw [e] at h; cases h
    | some d => rw [e] at h; cases h; exact ⟨d, rfl, rfl⟩
  · rw [List.getElem?_append_right (by simp; omega), List.getElem?_replicate] at h
    split at h <;> cases h
theorem def_ok {x qual : Str} {st : Stmt} {f : Addr} {fd : FuncData} {N ps : List Str} {k : Nat} {wr : List Nat} {g : EnvS → Out} (F : Fun K x qual st f fd) (S : FnScope N ps (defScope st))
    (hb : ∀ (cdv : Value) (A : Around) (outer : List Env) (s : Shared) (H : Hp) (E : XK), Room k (A.deeper (envOfC qual (defScope st) s.heap.objs.size f cdv)) →
      Takes (cxOf (L2.CX P w) P w K mg base N qual (defScope st) f cdv A outer s H E) (fun c d _ H => E c d H) →
      PassesOwn (model P w) (A.deeper (envOfC qual (defScope st) s.heap.objs.size f cdv)) (envOfC qual (defScope st) s.heap.objs.size f cdv) (cxOf (L2.CX P w) P w K mg base N qual (defScope st) f cdv A outer s H E).xe →
      PSsD (cxOf (L2.CX P w) P w K mg base N qual (defScope st) f cdv A outer s H E) (fun c d _ H => E c d H) wr (defBody st) g) : FnD P w K mg base (k + 1) f fd ps (fnR N.length g) := by
  refine F.okX S (fun vs H Q E ⟨G, ds, hs, ra, hl, _⟩ => by rw [ra.length]; exact hl) fun cdv A outer s H vs Q E hr ⟨G, ds, hs, ra, hl, q⟩ => ⟨_, hb cdv A outer s H E hr (takes_of rfl rfl rfl rfl) (passes_of rfl), ?_⟩
  have hvl := ra.length
  refine ⟨G, H, G, argS N.length ds, ⟨.refl hs, ?_, ⟨fun i d h => ?_, fun i es h => ?_, ?_⟩, fun i es p h _ => ?_, fun i j es fs p _ h => ?_⟩, ?_⟩
  · unfold L2.start argS
    simp only [List.length_append, List.length_map, List.length_replicate]
    omega
  · obtain ⟨e, h1, h2⟩ := argS_get h
    cases h2
    obtain ⟨v, hv, rv⟩ := ra.get h1
    exact ⟨v, start_get hv, rv⟩
  · obtain ⟨e, h1, h2⟩ := argS_get h
    cases h2
  · unfold L2.start argS
    simp only [List.length_append, List.length_map, List.length_replicate]
    omega
  · obtain ⟨e, h1, h2⟩ := argS_get h
    cases h2
  · obtain ⟨e, h1, h2⟩ := argS_get h
    cases h2
  · unfold fnR at q
    show PostS K mg (fun c d _ H => E c d H) G H wr (L2.start N vs) (argS N.length ds) G (g (argS N.length ds)) _
    cases e : g (argS N.length ds) with
    | nx ρ' => rw [e] at q; exact fun σ' G' H' ok _ _ => q .non G' H' ok.ext .non
    | rt d => rw [e] at q; exact fun v G' H' e' r => q v G' H' e' r
    | bk ρ' => rw [e] at q; exact q.elim
    | ct ρ' => rw [e] at q; exact q.elim
    | ex x ρ' => rw [e] at q; exact fun c σ' G' H' m ok _ _ => q G' H' ok.ext c m
    | no => rw [e] at q; exact q.elim
/-- an error class of the text over ValueError, without an __init__ of its own -/
structure ExcF (K : PySem.W.Frag) (mg : Str → Option Value) (x : Str) (C : Addr) : Prop where
  gP : mg x = some (.ref C)
  xP : PySem.W.excIn K C [.type "ValueError", .type "Exception", .type "BaseException", .type "object"] "ValueError.__new__" = true
  kP : PySem.W.keepIn K (.ref C) = true
  bP : PySem.W.subIn K (.ref C) (.type "BaseException") = some true
  tP : PySem.W.typeIn K (.ref C) = some (.type "type")
theorem s_raise {X : Cx} {W : WX} {x m : Str} {j : Nat} {p p2 p3 pos : Pos} {C : Addr} (T : ExcF X.K X.mg x C) (tk : Takes X W) (hg : Gl X x := by rfl) (hc : X.calm = true := by rfl) (hdb : (x == ("__debug__" : Str)) = false := by decide) : PSD X W [] (.Raise (some (.Call (.Name x p) [.Constant (.str m) j p2] [] p3)) none pos) (fun ρ => .ex x ρ) :=
  (ps_raise hc tk (pmk_own PySem.F.excBase_ValueError T.xP T.gP T.kP (raises_own T.bP T.tP) hg hdb)).wk fun Dd σ H ⟨G0, H0, G, ρ, ok, q⟩ => q (.ref C) σ G H T.gP ok (.refl _) .refl
end
end TD

/-! TdFun: the built-ins, over data. -/
namespace TD
open PySem PySem.Spec PyProof.Rows L2
section
variable {X : Cx} {W : WX}
/-! ### len, abs, min, max, int, str -/
def lenK : List D → R D := fun ds => match ds with
  | [.list xs] => .ok (.int xs.length)
  | [.tuple xs] => .ok (.int xs.length)
  | [.str z] => if lineOk z.length then .ok (.int z.length) else .no
  | [.dict [(.none, .list xs)]] => .ok (.int xs.length)
  | _ => .no
theorem RpAll.inv1 {K : PySem.W.Frag} {G : Hp} {xs : List V} {d : D} (h : RpAll K G xs [d]) : ∃ v, xs = [v] ∧ Rp K G v d := by
  cases h with
  | cons h1 h2 => cases h2; exact ⟨_, rfl, h1⟩
theorem RpAll.inv2 {K : PySem.W.Frag} {G : Hp} {xs : List V} {d e : D} (h : RpAll K G xs [d, e]) : ∃ v u, xs = [v, u] ∧ Rp K G v d ∧ Rp K G u e := by
  cases h with
  | cons h1 h2 =>
    obtain ⟨u, rfl, r⟩ := h2.inv1
    exact ⟨_, _, rfl, h1, r⟩
def rLenAll (K : PySem.W.Frag) : List V → Hp → VK → Prop := fun xs H Q => (∃ p ys, xs = [.ref p] ∧ (SqL K H p ys ∨ SqT K H p ys) ∧ Q (.int ys.length) H) ∨ ∃ z, xs = [.str z] ∧ z.length ≤ sizeLine ∧ Q (.int z.length) H
theorem cr_len : CallR X (.builtin "len") (rLenAll X.K) := call_len_seq.or call_len_str
theorem cd_len : CallD X (rLenAll X.K) lenK := by
  intro ds xs G H Wx Q hs rr q
  unfold lenK at q
  split at q
  · obtain ⟨v, rfl, r⟩ := rr.inv1
    obtain ⟨a, ys, rfl, h1, g1, p1⟩ := r.seqL hs
    exact .inl ⟨a, ys, rfl, .inl (SqL.of h1), by rw [p1.length]; exact q.done hs (.int _)⟩
  · obtain ⟨v, rfl, r⟩ := rr.inv1
    obtain ⟨a, ys, rfl, h1, g1, p1⟩ := r.seqT hs
    exact .inl ⟨a, ys, rfl, .inr h1, by rw [p1.length]; exact q.done hs (.int _)⟩
  · obtain ⟨v, rfl, r⟩ := rr.inv1
    cases r
    split at q
    · rename_i h
      exact .inr ⟨_, rfl, lineOk_le h, q.done hs (.int _)⟩
    · exact q.elim
  · obtain ⟨v, rfl, r⟩ := rr.inv1
    obtain ⟨a, ns, rfl, rfl, h1⟩ := scr_inv r
    exact .inl ⟨a, _, rfl, .inl (hs.seq h1), by rw [List.length_map] at q ⊢; exact q.done hs (.int _)⟩
  · exact q.elim
theorem ld_len : LstD X (rLenAll X.K) (fun ds => .ok (.int ds.length)) := by
  intro ds a xs G H Wx Q hs h r q
  exact .inl ⟨a, xs, rfl, .inl (SqL.of h), by rw [r.length]; exact q.done hs (.int _)⟩
def absK : List D → R D := fun ds => match ds with
  | [.int i] => .ok (.int (if i < 0 then -i else i))
  | _ => .no
theorem cd_abs : CallD X (fun xs H Q => ∃ i, xs = [.int i] ∧ Q (.int (if i < 0 then -i else i)) H) absK := by
  intro ds xs G H Wx Q hs rr q
  unfold absK at q
  split at q
  · obtain ⟨v, rfl, r⟩ := rr.inv1
    cases r
    exact ⟨_, rfl, q.done hs (.int _)⟩
  · exact q.elim
def min2K : List D → R D := fun ds => match ds with
  | [.int i, .int j] => .ok (.int (if j < i then j else i))
  | _ => .no
def max2K : List D → R D := fun ds => match ds with
  | [.int i, .int j] => .ok (.int (if j > i then j else i))
  | _ => .no
theorem cd_min2 : CallD X (fun xs H Q => ∃ i j, xs = [.int i, .int j] ∧ Q (.int (if j < i then j else i)) H) min2K := by
  intro ds xs G H Wx Q hs rr q
  unfold min2K at q
  split at q
  · obtain ⟨v, u, rfl, r, r'⟩ := rr.inv2
    cases r; cases r'
    exact ⟨_, _, rfl, q.done hs (.int _)⟩
  · exact q.elim
theorem cd_max2 : CallD X (fun xs H Q => ∃ i j, xs = [.int i, .int j] ∧ Q (.int (if j > i then j else i)) H) max2K := by
  intro ds xs G H Wx Q hs rr q
  unfold max2K at q
  split at q
  · obtain ⟨v, u, rfl, r, r'⟩ := rr.inv2
    cases r; cases r'
    exact ⟨_, _, rfl, q.done hs (.int _)⟩
  · exact q.elim
def intK : List D → R D := fun ds => match ds with
  | [.int i] => .ok (.int i)
  | [.bool b] => .ok (.int (if b then 1 else 0))
  | _ => .no
theorem cd_int : CallD X (fun xs H Q => (∃ i, xs = [.int i] ∧ Q (.int i) H) ∨ ∃ k, xs = [.bl k] ∧ Q (.int (if k then 1 else 0)) H) intK := by
  intro ds xs G H Wx Q hs rr q
  unfold intK at q
  split at q
  · obtain ⟨v, rfl, r⟩ := rr.inv1
    cases r
    exact .inl ⟨_, rfl, q.done hs (.int _)⟩
  · obtain ⟨v, rfl, r⟩ := rr.inv1
    cases r
    exact .inr ⟨_, rfl, q.done hs (.int _)⟩
  · exact q.elim
def strK : List D → R D := fun ds => match ds with
  | [.int i] => if decide (i.natAbs.log2 < 1920) then .ok (.str (toString i)) else .no
  | _ => .no
theorem cd_str : CallD X (fun xs H Q => ∃ i, xs = [.int i] ∧ i.natAbs.log2 < 1920 ∧ Q (.str (toString i)) H) strK := by
  intro ds xs G H Wx Q hs rr q
  unfold strK at q
  split at q
  · obtain ⟨v, rfl, r⟩ := rr.inv1
    cases r
    split at q
    · rename_i h
      exact ⟨_, rfl, of_decide_eq_true h, q.done hs (.str _)⟩
    · exact q.elim
  · exact q.elim
/-! ### tuple, list -/
def tupK : List D → R D := fun ds => match ds with
  | [.tuple xs] => .ok (.tuple xs)
  | [.list xs] => .ok (.tuple xs)
  | _ => .no
theorem cd_tup : CallD X (fun xs H Q => ∃ p ys, xs = [.ref p] ∧ ((SqL X.K H p ys ∧ ∀ l, H l = none → Q (.ref l) (upd H l (.tup ys))) ∨ (SqT X.K H p ys ∧ Q (.ref p) H))) tupK := by
  intro ds xs G H Wx Q hs rr q
  unfold tupK at q
  split at q
  · obtain ⟨v, rfl, r⟩ := rr.inv1
    obtain ⟨a, ys, rfl, h1, g1, p1⟩ := r.seqT hs
    exact ⟨a, ys, rfl, .inr ⟨h1, q.done hs r⟩⟩
  · obtain ⟨v, rfl, r⟩ := rr.inv1
    obtain ⟨a, ys, rfl, h1, g1, p1⟩ := r.seqL hs
    refine ⟨a, ys, rfl, .inl ⟨SqL.of h1, fun l hl => ?_⟩⟩
    have e := Ext.new (o := .tup ys) hs hl
    exact q _ _ _ e (.tup (SqT.of upd_same) (p1.up e.gg))
  · exact q.elim
theorem ld_tup : LstD X (fun xs H Q => ∃ p ys, xs = [.ref p] ∧ ((SqL X.K H p ys ∧ ∀ l, H l = none → Q (.ref l) (upd H l (.tup ys))) ∨ (SqT X.K H p ys ∧ Q (.ref p) H))) (fun ds => .ok (.tuple ds)) := by
  intro ds a xs G H Wx Q hs h r q
  refine ⟨a, xs, rfl, .inl ⟨SqL.of h, fun l hl => ?_⟩⟩
  have e := Ext.new (o := .tup xs) hs hl
  exact q _ _ _ e (.tup (SqT.of upd_same) (r.up e.gg))
theorem ln_lst : LstN X (fun xs H Q => ∃ p ys, xs = [.ref p] ∧ (SqL X.K H p ys ∨ SqT X.K H p ys) ∧ ∀ l, H l = none → Q (.ref l) (upd H l (.lst ys))) (fun ds => .ok ds) := by
  intro ds a xs G H Wx Q hs h r q
  refine ⟨a, xs, rfl, .inl (SqL.of h), fun l hl => ?_⟩
  exact q l xs G _ (Ext.newH hs hl) hl (hs.free hl) upd_same r
/-- list(t) of settled data -/
def lstK : List D → R (List D) := fun ds => match ds with
  | [.tuple xs] => .ok xs
  | [.list xs] => .ok xs
  | _ => .no
theorem n_lstOf {x : Str} {p pos : Pos} {e : Expr} {g : EnvS → R (List D)} (hm : X.mg x = none) (hv : bootBuiltins x = some (.type "list")) (ha : PAD X W [e] g) (hg : Gl X x := by rfl) (hn : x ≠ "__name__" := by decide) (hdb : (x == ("__debug__" : Str)) = false := by decide)
    (he : starEach [e] X.env = (false, eval e X.env) :: starEach [] X.env := by rfl) : PDN X W (.Call (.Name x p) [e] [] pos) (callN lstK g) :=
  (pe_callTy call_list_of hg hm hv ha hn hdb he rfl).wk fun σ H Q ⟨G, ρ, hs, he, q⟩ => seqP PostN.fin q hs he fun as vs G1 H1 _ e1 r1 he1 q1 => by
    unfold lstK at q1
    split at q1
    · obtain ⟨v, rfl, r⟩ := RpAll.inv1 r1
      obtain ⟨a, ys, rfl, h1, g1, p1⟩ := r.seqT e1.sub
      exact ⟨a, ys, rfl, .inr h1, fun l hl => q1 l ys G1 _ (Ext.newH e1.sub hl) hl (e1.sub.free hl) upd_same p1⟩
    · obtain ⟨v, rfl, r⟩ := RpAll.inv1 r1
      obtain ⟨a, ys, rfl, h1, g1, p1⟩ := r.seqL e1.sub
      exact ⟨a, ys, rfl, .inl (SqL.of h1), fun l hl => q1 l ys G1 _ (Ext.newH e1.sub hl) hl (e1.sub.free hl) upd_same p1⟩
    · exact q1.elim
/-- list(range(..)) -/
def rgNew (f : EnvS → R D) : EnvS → R (List D) := fun ρ => (f ρ).bind fun d => match d with
  | .int i => if decide (0 ≤ i ∧ i ≤ 16777216) then .ok (rngD 0 i.toNat) else .no
  | _ => .no
theorem n_listRg {a : Expr} {p p2 pos pos2 : Pos} {f : EnvS → R D} (hm : X.mg "list" = none) (hm2 : X.mg "range" = none) (ha : PD X W a f) (hg : Gl X "list" := by rfl) (hg2 : Gl X "range" := by rfl) (hc : X.calm = true := by rfl) (na2 : starEach [a] X.env = (false, eval a X.env) :: starEach [] X.env := by rfl)
    (na : starEach [(.Call (.Name "range" p2) [a] [] pos2)] X.env = (false, eval (.Call (.Name "range" p2) [a] [] pos2) X.env) :: starEach [] X.env := by rfl) : PDN X W (.Call (.Name "list" p) [.Call (.Name "range" p2) [a] [] pos2] [] pos) (rgNew f) :=
  (pe_listRg hc hg hm (prg_1 hg2 hm2 ha na2) na).wk fun σ H Q ⟨G, ρ, hs, he, q⟩ => by
    unfold rgNew at q
    refine seqP PostN.fin q hs he fun a v G1 H1 _ e1 r1 he1 q1 => ?_
    cases a with
    | int i =>
      cases r1
      dsimp only at q1
      split at q1
      · rename_i h
        have h' := of_decide_eq_true h
        refine ⟨i, rfl, .of_le (Int.le_refl 0) h'.2 (by decide) h'.1, fun l hl => ?_⟩
        refine q1 l _ G1 _ (Ext.newH e1.sub hl) hl (e1.sub.free hl) upd_same ?_
        have e : rgV 0 i = (List.range i.toNat).map fun j => V.int (0 + (j : Nat)) := by unfold rgV; rw [Int.sub_zero]
        rw [e]
        unfold rngD
        have : ∀ l : List Nat, RpAll X.K G1 (l.map fun j => V.int (0 + (j : Nat))) (l.map fun j => PyData.int (0 + (j : Nat))) := by
          intro l
          induction l with
          | nil => exact .nil
          | cons x r ih => exact .cons (.int _) ih
        exact this _
      · exact q1.elim
    | _ => exact q1.elim
/-! ### any, all, sum, max, min of a list that may be read -/
def anyK : List D → R D := fun ds => match boolsOf ds with
  | some bs => .ok (.bool (bs.any id))
  | none => .no
def allK : List D → R D := fun ds => match boolsOf ds with
  | some bs => .ok (.bool (bs.all id))
  | none => .no
def sumK : List D → R D := fun ds => match intsOf ds with
  | some ns => .ok (.int ns.sum)
  | none => .no
theorem ld_any : LstD X (rAny X.K) anyK := by
  intro ds a xs G H Wx Q hs h r q
  unfold anyK at q
  split at q
  · rename_i bs e
    rw [boolsOf_some e] at r
    rw [r.of_bools] at h
    exact ⟨a, bs, rfl, SqL.of h, q.done hs (.bl _)⟩
  · exact q.elim
theorem ld_all : LstD X (rAll X.K) allK := by
  intro ds a xs G H Wx Q hs h r q
  unfold allK at q
  split at q
  · rename_i bs e
    rw [boolsOf_some e] at r
    rw [r.of_bools] at h
    exact ⟨a, bs, rfl, SqL.of h, q.done hs (.bl _)⟩
  · exact q.elim
theorem ld_sum : LstD X (rSum X.K) sumK := by
  intro ds a xs G H Wx Q hs h r q
  unfold sumK at q
  split at q
  · rename_i bs e
    rw [intsOf_some e] at r
    rw [r.of_ints] at h
    exact ⟨a, bs, rfl, SqL.of h, q.done hs (.int _)⟩
  · exact q.elim
def maxI : List Int → Int
  | [] => 0
  | [a] => a
  | a :: r => if maxI r > a then maxI r else a
def minI : List Int → Int
  | [] => 0
  | [a] => a
  | a :: r => if minI r < a then minI r else a
theorem maxI_mem : ∀ {ns : List Int}, ns ≠ [] → maxI ns ∈ ns ∧ ∀ y ∈ ns, y ≤ maxI ns
  | [a], _ => ⟨List.mem_singleton_self a, fun y h => by rw [List.mem_singleton] at h; subst h; exact Int.le_refl _⟩
  | a :: b :: r, _ => by
    obtain ⟨h1, h2⟩ := maxI_mem (ns := b :: r) (by simp)
    have e : maxI (a :: b :: r) = if maxI (b :: r) > a then maxI (b :: r) else a := rfl
    rw [e]
    split
    · exact ⟨List.mem_cons_of_mem _ h1, fun y hy => by
        rcases List.mem_cons.mp hy with z | z
        · subst z; omega
        · exact h2 y z⟩
    · exact ⟨List.mem_cons_self, fun y hy => by
        rcases List.mem_cons.mp hy with z | z
        · subst z; omega
        · have := h2 y z; omega⟩
theorem minI_mem : ∀ {ns : List Int}, ns ≠ [] → minI ns ∈ ns ∧ ∀ y ∈ ns, minI ns ≤ y
  | [a], _ => ⟨List.mem_singleton_self a, fun y h => by rw [List.mem_singleton] at h; subst h; exact Int.le_refl _⟩
  | a :: b :: r, _ => by
    obtain ⟨h1, h2⟩ := minI_mem (ns := b :: r) (by simp)
    have e : minI (a :: b :: r) = if minI (b :: r) < a then minI (b :: r) else a := rfl
    rw [e]
    split
    · exact ⟨List.mem_cons_of_mem _ h1, fun y hy => by
        rcases List.mem_cons.mp hy with z | z
        · subst z; omega
        · exact h2 y z⟩
    · exact ⟨List.mem_cons_self, fun y hy => by
        rcases List.mem_cons.mp hy with z | z
        · subst z; omega
        · have := h2 y z; omega⟩
def maxK : List D → R D := fun ds => match intsOf ds with
  | some (n :: ns) => .ok (.int (maxI (n :: ns)))
  | _ => .no
def minK : List D → R D := fun ds => match intsOf ds with
  | some (n :: ns) => .ok (.int (minI (n :: ns)))
  | _ => .no
theorem ld_max : LstD X (rMax X.K) maxK := by
  intro ds a xs G H Wx Q hs h r q
  unfold maxK at q
  split at q
  · rename_i n ns e
    rw [intsOf_some e] at r
    rw [r.of_ints] at h
    refine ⟨a, n :: ns, rfl, SqL.of h, by simp, fun m hm hle => ?_⟩
    obtain ⟨h1, h2⟩ := maxI_mem (ns := n :: ns) (by simp)
    have e1 := hle _ h1
    have e2 := h2 _ hm
    have e3 : m = maxI (n :: ns) := by omega
    rw [e3]
    exact q.done hs (.int _)
  · exact q.elim
theorem ld_min : LstD X (rMin X.K) minK := by
  intro ds a xs G H Wx Q hs h r q
  unfold minK at q
  split at q
  · rename_i n ns e
    rw [intsOf_some e] at r
    rw [r.of_ints] at h
    refine ⟨a, n :: ns, rfl, SqL.of h, by simp, fun m hm hle => ?_⟩
    obtain ⟨h1, h2⟩ := minI_mem (ns := n :: ns) (by simp)
    have e1 := hle _ h1
    have e2 := h2 _ hm
    have e3 : m = minI (n :: ns) := by omega
    rw [e3]
    exact q.done hs (.int _)
  · exact q.elim
/-! ### isinstance -/
def tyName : D → String
  | .none => "NoneType"
  | .bool _ => "bool"
  | .int _ => "int"
  | .str _ => "str"
  | .list _ => "list"
  | .tuple _ => "tuple"
  | .dict _ => "?"
def isiD (T : String) (f : EnvS → R D) : EnvS → R D := fun ρ => (f ρ).bind fun d => match d with
  | .dict _ => .no
  | d => match kitB (tyName d) T with
    | some b => .ok (.bool b)
    | none => .no
theorem Rp.ty {K : PySem.W.Frag} {G H : Hp} {v : V} {d : D} (hs : Same G H) (r : Rp K G v d) (hd : ∀ kv, d ≠ .dict kv) : TyX K H v (.type (tyName d)) := by
  cases d with
  | none => cases r; exact .base .non
  | bool b => cases r; exact .base (.bl b)
  | int i => cases r; exact .base (.int i)
  | str x => cases r; exact .base (.str x)
  | list ds => obtain ⟨a, xs, rfl, h1, _, _⟩ := r.seqL hs; exact .base (.lst h1)
  | tuple ds =>
    obtain ⟨a, xs, rfl, h1, _, _⟩ := r.seqT hs
    rcases h1 with (h | ⟨o, h⟩) | ⟨o, its, n, hk, hc, _⟩
    · exact .base (.tup h)
    · exact .fTuple h
    · exact .kTuple hk hc
  | dict kv => exact absurd rfl (hd kv)
theorem d_isi {x : Str} {p p2 pos : Pos} {T : String} {e : Expr} {f : EnvS → R D} (hm : X.mg "isinstance" = none) (hmT : X.mg x = none) (hvT : bootBuiltins x = some (.type T)) (ha : PD X W e f) (hg : Gl X "isinstance" := by rfl) (hgT : Gl X x := by rfl) (hnT : x ≠ "__name__" := by decide) (hdT : (x == ("__debug__" : Str)) = false := by decide)
    (he : starEach [e, .Name x p2] X.env = (false, eval e X.env) :: starEach [.Name x p2] X.env := by rfl) (he2 : starEach [.Name x p2] X.env = (false, eval (.Name x p2) X.env) :: starEach [] X.env := by rfl)
    (hpl : (backTo pos (starEach [.Name x p2] X.env)).any (·.1) = false := by rfl) : PD X W (.Call (.Name "isinstance" p) [e, .Name x p2] [] pos) (isiD T f) :=
  (pe_callB call_isi hg hm boot_isinstance (pa_cons ha (pa_cons (pe_bltn (v := .ty T) hgT hmT hvT rfl hnT hdT) pa_nil he2) he) (by decide) (by decide) he hpl).wk fun σ H Q ⟨G, ρ, hs, he, q⟩ => by
    unfold isiD at q
    refine Post.seq q hs he fun a v G1 H1 _ e1 r1 he1 q1 => ?_
    split at q1
    · exact q1.elim
    · rename_i hnd
      split at q1
      · rename_i b hb
        exact ⟨v, .ty T, _, _, b, rfl, .ty T, Rp.ty e1.sub r1 hnd, kit_ty hb, q1.done e1.sub (.bl b)⟩
      · exact q1.elim
end
end TD

/-! TdMore: slices of any kind, lent lists, index, remove, enumerate of a tuple, sorted, chains. -/
namespace TD
open PySem PySem.Spec PyProof.Rows L2
theorem hu65 {A : Around} {k : Nat} (hr : Room k A) : A.units + 65 < cLine := by have := hr.un; omega
section
variable {X : Cx} {W : WX} {pos : Pos}
/-! ### slices -/
def slcG (f : EnvS → R D) (g h : EnvS → R (Option Int)) : EnvS → R D := fun ρ => (f ρ).bind fun d => (g ρ).bind fun lo => (h ρ).bind fun hi => match d with
  | .tuple ds => .ok (.tuple (cutD ds lo hi))
  | .list ds => .ok (.list (cutD ds lo hi))
  | .str z => if lineOk z.length then .ok (.str (cutS z lo hi)) else .no
  | _ => .no
theorem d_slc {e : Expr} {lo hi : Option Expr} {p2 : Pos} {f : EnvS → R D} {g h : EnvS → R (Option Int)} (he : PD X W e f) (hl : POD X W lo g) (hu : POD X W hi h) : PD X W (.Subscript e (.Slice lo hi none p2) pos) (slcG f g h) :=
  (pe_slice (sl_tupA.or (sl_list.or sl_str)) he hl hu).wk fun σ H Q ⟨G, ρ, hs, he, q⟩ => by
    unfold slcG at q
    refine Post.seq q hs he fun a v G1 H1 _ e1 r1 he1 q1 => ?_
    refine Post.seq q1 e1.sub he1 fun lo lo' G2 H2 _ e2 r2 he2 q2 => ?_
    refine Post.seq q2 e2.sub he2 fun hi hi' G3 H3 _ e3 r3 he3 q3 => ?_
    subst r2 r3
    have r1 := Rp.up r1 (e2.gg.trans e3.gg)
    cases a with
    | tuple ds =>
      obtain ⟨l, xs, rfl, h1, g1, p1⟩ := r1.seqT e3.sub
      refine .inl ⟨l, xs, rfl, h1, fun hw => ?_, fun _ p hp => ?_⟩
      · rw [p1.length] at hw
        have q3 : Post (rpE X.K) (Wxo X.mg W σ) G3 H3 (.ok (.tuple (cutD ds lo' hi'))) Q := q3
        rw [cut_all hw] at q3
        exact q3.done e3.sub (.tup g1 p1)
      · have e := Ext.new (o := .tup (cutV xs lo' hi')) e3.sub hp
        exact q3 _ _ _ e (.tup (SqT.of upd_same) ((p1.cut lo' hi').up e.gg))
    | list ds =>
      obtain ⟨l, xs, rfl, h1, g1, p1⟩ := r1.seqL e3.sub
      refine .inr (.inl ⟨l, xs, rfl, SqL.of h1, fun p hp => ?_⟩)
      have e := Ext.new (o := .lst (cutV xs lo' hi')) e3.sub hp
      exact q3 _ _ _ e (.lst upd_same ((p1.cut lo' hi').up e.gg))
    | str z =>
      cases r1
      dsimp only at q3
      split at q3
      · rename_i hl
        exact .inr (.inr ⟨z, rfl, lineOk_le hl, q3.done e3.sub (.str _)⟩)
      · exact q3.elim
    | _ => exact q3.elim
/-! ### one's own lists lent -/
mutual
def noL : D → Bool
  | .tuple ds => noLs ds
  | .none => true
  | .bool _ => true
  | .int _ => true
  | .str _ => true
  | .list _ => false
  | .dict _ => false
def noLs : List D → Bool
  | [] => true
  | d :: r => noL d && noLs r
end
mutual
theorem noL_mono {K : PySem.W.Frag} {G G' : Hp} (h : ∀ a xs, SqT K G a xs → SqT K G' a xs) : ∀ (d : D) (v : V), noL d = true → Rp K G v d → Rp K G' v d
  | .none, _, _, r => by cases r; exact .non
  | .bool _, _, _, r => by cases r; exact .bl _
  | .int _, _, _, r => by cases r; exact .int _
  | .str _, _, _, r => by cases r; exact .str _
  | .tuple ds, v, n, r => by
    cases r with
    | tup h1 h2 => exact .tup (h _ _ h1) (noLs_mono h ds _ (by simpa [noL] using n) h2)
  | .list _, _, n, _ => by simp [noL] at n
  | .dict _, _, n, _ => by simp [noL] at n
theorem noLs_mono {K : PySem.W.Frag} {G G' : Hp} (h : ∀ a xs, SqT K G a xs → SqT K G' a xs) : ∀ (ds : List D) (vs : List V), noLs ds = true → RpAll K G vs ds → RpAll K G' vs ds
  | [], _, _, r => by cases r; exact .nil
  | d :: ds, _, n, r => by
    have n' : noL d = true ∧ noLs ds = true := by simpa [noLs] using n
    cases r with
    | cons h1 h2 => exact .cons (noL_mono h d _ n'.1 h1) (noLs_mono h ds _ n'.2 h2)
end
def toF (ρ : EnvS) : EnvS := ρ.map fun o => match o with
  | some (.ow ds) => some (.pu (.list ds))
  | o => o
def lendF (f : EnvS → R D) : EnvS → R D := fun ρ => (f (toF ρ)).bind fun d => if noL d = true then .ok d else .no
theorem d_lend {e : Expr} {f : EnvS → R D} (h : PD X W e f) : PD X W e (lendF f) := L2.PE.wk h fun σ H Q ⟨G, ρ, hs, he, q⟩ => by
  classical
  let own : Addr → Prop := fun p => ∃ (i : Nat) (ds : List D), ρ[i]? = some (some (.ow ds)) ∧ σ[i]? = some (some (V.ref p))
  have ownH : ∀ p, own p → G p = none ∧ ∃ vs, H p = some (.lst vs) := fun p ⟨i, ds, h1, h2⟩ => by
    obtain ⟨p', vs, z1, z2, z3, _⟩ := he.ow i ds h1
    rw [h2] at z1
    cases z1
    exact ⟨z3, vs, z2⟩
  let GF : Hp := fun p => if own p then H p else G p
  have gfO : ∀ p, own p → GF p = H p := fun p h => if_pos h
  have gfN : ∀ p, ¬ own p → GF p = G p := fun p h => if_neg h
  have sF : Same G GF := fun b o hb => by
    by_cases z : own b
    · rw [(ownH b z).1] at hb; cases hb
    · rw [gfN b z]; exact hb
  have sH : Same GF H := fun b o hb => by
    by_cases z : own b
    · rw [gfO b z] at hb; exact hb
    · rw [gfN b z] at hb; exact hs b o hb
  have envF : EnvE X.K GF H σ (toF ρ) := by
    refine ⟨fun i d hi => ?_, fun i ds hi => ?_, by unfold toF; rw [List.length_map]; exact he.len⟩
    · unfold toF at hi
      rw [List.getElem?_map] at hi
      cases ei : ρ[i]? with
      | none => rw [ei] at hi; cases hi
      | some o =>
        rw [ei] at hi
        cases o with
        | none => cases hi
        | some s =>
          cases s with
          | pu d' =>
            cases hi
            obtain ⟨v, h1, h2⟩ := he.pu i d ei
            exact ⟨v, h1, h2.up sF⟩
          | ow ds =>
            cases hi
            obtain ⟨p, vs, h1, h2, h3, h4⟩ := he.ow i ds ei
            exact ⟨_, h1, .lst (by rw [gfO p ⟨i, ds, ei, h1⟩]; exact h2) (h4.up sF)⟩
    · unfold toF at hi
      rw [List.getElem?_map] at hi
      cases ei : ρ[i]? with
      | none => rw [ei] at hi; cases hi
      | some o =>
        rw [ei] at hi
        cases o with
        | none => cases hi
        | some s => cases s <;> cases hi
  -- back
  have back : ∀ {G' H' : Hp}, Ext GF H G' H' → ∃ G2, Ext G H G2 H' ∧ ∀ a xs, SqT X.K G' a xs → SqT X.K G2 a xs := fun {G' H'} e => by
    refine ⟨fun p => if own p then none else G' p, ⟨fun b o hb => ?_, e.hh, fun b o hb => ?_, fun p h1 h2 => ?_⟩, fun a xs r => ?_⟩
    · by_cases z : own b
      · rw [if_pos z] at hb; cases hb
      · rw [if_neg z] at hb; exact e.sub b o hb
    · have z : ¬ own b := fun z => by rw [(ownH b z).1] at hb; cases hb
      show (if own b then none else G' b) = some o
      rw [if_neg z]
      exact e.gg b o (sF b o hb)
    · by_cases z : own p
      · exact absurd (if_pos z) h2
      · have h2 : G' p ≠ none := fun q => h2 (by show (if own p then none else G' p) = none; rw [if_neg z]; exact q)
        exact e.fr p (by rw [gfN p z]; exact h1) h2
    · have no : ∀ o, G' a = some o → (∀ vs, o ≠ .lst vs) → (if own a then none else G' a) = some o := fun o ho hn => by
        have z : ¬ own a := fun z => by
          obtain ⟨_, vs, hv⟩ := ownH a z
          have := e.gg a _ (by rw [gfO a z]; exact hv)
          rw [ho] at this
          cases this
          exact hn vs rfl
        rw [if_neg z]
        exact ho
      rcases r with (r | ⟨o, r⟩) | r
      · exact .inl (.inl (no _ r fun vs z => by cases z))
      · exact .inl (.inr ⟨o, no _ r fun vs z => by cases z⟩)
      · exact .inr r
  unfold lendF at q
  refine ⟨GF, toF ρ, sH, envF, ?_⟩
  cases ef : f (toF ρ) with
  | ex x =>
    rw [ef] at q
    intro G' H' e
    obtain ⟨G2, e2, _⟩ := back e
    exact q G2 H' e2
  | no => rw [ef] at q; exact q
  | ok d =>
    rw [ef] at q
    dsimp only [R.bind] at q
    split at q
    · rename_i hn
      intro v G' H' e r
      obtain ⟨G2, e2, hT⟩ := back e
      exact q v G2 H' e2 (noL_mono hT d v hn r)
    · exact q.elim
/-! ### chains of two comparisons -/
theorem tChD {r r' : R2} {k k' : D → D → R D} {f g h : EnvS → R D} (hk : OpD X r k) (hk' : OpD X r' k') {σ : L2.St} {H : Hp} {Q : VK} (q : tD X.K X.mg W (rpE X.K) (chD k k' f g h) σ H Q) :
    tChain r r' (tD X.K X.mg W (rpE X.K) f) (tD X.K X.mg W (rpE X.K) g) (tD X.K X.mg W (rpE X.K) h) σ H Q := by
  obtain ⟨G, ρ, hs, he, q⟩ := q
  unfold chD at q
  refine Post.seq q hs he fun x v G1 H1 _ e1 r1 he1 q1 => ?_
  refine Post.seq q1 e1.sub he1 fun y u G2 H2 _ e2 r2 he2 q2 => ?_
  refine hk x y v u G2 H2 (Wxo X.mg W σ) _ e2.sub (Rp.up r1 e2.gg) r2 ?_
  cases ek : k x y with
  | ex z => rw [ek] at q2; exact q2
  | no => rw [ek] at q2; exact q2
  | ok z =>
    rw [ek] at q2
    intro w G3 H3 e3 r3
    have q2 := Post.later q2 e3
    cases z with
    | bool b =>
      cases r3
      refine ⟨b, rfl, ?_⟩
      cases b with
      | true =>
        refine Post.seq q2 e3.sub (he2.up e3) fun z t G4 H4 _ e4 r4 he4 q4 => ?_
        exact hk' y z u t G4 H4 _ Q e4.sub ((Rp.up r2 e3.gg).up e4.gg) r4 q4
      | false => exact Post.done (rp := rpE X.K) q2 e3.sub (.bl false)
    | _ => exact q2.elim
theorem d_chain {op op' : CmpOp} {a b c : Expr} {r r' : R2} {k k' : D → D → R D} {f g h : EnvS → R D} (ho : OpR X (compareOp op) r) (hk : OpD X r k) (ho' : OpR X (compareOp op') r') (hk' : OpD X r' k') (ha : PD X W a f) (hb : PD X W b g) (hc : PD X W c h)
    (hm : lastMarks [op, op'] [b, c] = false := by with_unfolding_all rfl) : PD X W (.Compare a [op, op'] [b, c] pos) (chD k k' f g h) := (pe_chain ho ho' ha hb hc hm).wk fun _ _ _ q => tChD hk hk' q
theorem dt_chain {op op' : CmpOp} {a b c : Expr} {r r' : R2} {k k' : D → D → R D} {f g h : EnvS → R D} (ho : OpR X (compareOp op) r) (hk : OpD X r k) (ho' : OpR X (compareOp op') r') (hk' : OpD X r' k') (ha : PD X W a f) (hb : PD X W b g) (hc : PD X W c h)
    (hm : lastMarks [op, op'] [b, c] = false := by with_unfolding_all rfl) : PTD X W (.Compare a [op, op'] [b, c] pos) (fun ρ => asB (chD k k' f g h ρ)) := (pt_chain ho ho' ha hb hc hm).wk fun _ _ _ q => tTestD q fun _ q' => tChD hk hk' q'
/-! ### x in a tuple; a list times an int; texts -/
def rInT (K : PySem.W.Frag) : R2 := fun x y H Q => ∃ d ds, Dp K H x d ∧ Dp K H y (.tuple ds) ∧ SeqAt.shaped d = true ∧ SeqAt.shaped (.tuple ds) = true ∧ Q (.bl (ds.any fun z => PyData.eqv z d)) H
def rNotInT (K : PySem.W.Frag) : R2 := fun x y H Q => ∃ d ds, Dp K H x d ∧ Dp K H y (.tuple ds) ∧ SeqAt.shaped d = true ∧ SeqAt.shaped (.tuple ds) = true ∧ Q (.bl (!ds.any fun z => PyData.eqv z d)) H
theorem canAll_tup {ds : List D} (h : SeqAt.shaped (.tuple ds) = true) : PyData.canLayAll0 ds = true := by
  have := okD_can (d := .tuple ds) h
  simpa [PyData.canLay0] using this
theorem op_inT (hu : X.A.units + 65 < cLine) : OpR X (compareOp .In) (rInT X.K) := by
  intro pins s σ H x y v u Q I rx ry h
  obtain ⟨d, ds, hd, he, sd, se, q⟩ := h
  obtain ⟨as, r1⟩ := Dp.reads I d x v hd rx
  obtain ⟨bs, r2⟩ := Dp.reads I (.tuple ds) y u he ry
  exact SeqAt.in_tuple_reads r2 r1 (canAll_tup se) (SeqAt.canLay_of_shaped sd) (room_in_shaped sd hu) ⟨.bl _, H, I, rfl, q⟩
theorem op_notInT (hu : X.A.units + 65 < cLine) : OpR X (compareOp .NotIn) (rNotInT X.K) := by
  intro pins s σ H x y v u Q I rx ry h
  obtain ⟨d, ds, hd, he, sd, se, q⟩ := h
  obtain ⟨as, r1⟩ := Dp.reads I d x v hd rx
  obtain ⟨bs, r2⟩ := Dp.reads I (.tuple ds) y u he ry
  exact SeqAt.notIn_tuple_reads r2 r1 (canAll_tup se) (SeqAt.canLay_of_shaped sd) (room_in_shaped sd hu) ⟨.bl _, H, I, rfl, q⟩
def sign1 (s : Str) : Option Nat := match s.cps.toList with
  | [c] => some c
  | _ => none
theorem sign1_eq {s : Str} {c : Nat} (h : sign1 s = some c) : s = ⟨#[c]⟩ := by
  unfold sign1 at h
  split at h
  · rename_i c' e
    cases h
    obtain ⟨⟨l⟩⟩ := s
    have e : l = [c] := e
    rw [e]
  · cases h
def inG (a : D) : D → R D
  | .list ds => if okD a && okD (.list ds) then .ok (.bool (ds.any fun z => PyData.eqv z a)) else .no
  | .tuple ds => if okD a && okD (.tuple ds) then .ok (.bool (ds.any fun z => PyData.eqv z a)) else .no
  | .str t => match a with
    | .str s => match sign1 s with
      | some c => .ok (.bool (decide (c ∈ t.cps.toList)))
      | none => .no
    | _ => .no
  | _ => .no
def notInG (a : D) : D → R D
  | .list ds => if okD a && okD (.list ds) then .ok (.bool (!ds.any fun z => PyData.eqv z a)) else .no
  | .tuple ds => if okD a && okD (.tuple ds) then .ok (.bool (!ds.any fun z => PyData.eqv z a)) else .no
  | .str t => match a with
    | .str s => match sign1 s with
      | some c => .ok (.bool (!decide (c ∈ t.cps.toList)))
      | none => .no
    | _ => .no
  | _ => .no
def rInG (K : PySem.W.Frag) : R2 := fun x y H Q => rInD K x y H Q ∨ (rInT K x y H Q ∨ (fun x y H Q => ∃ (c : Nat) (z : Str), x = .str ⟨#[c]⟩ ∧ y = .str z ∧ Q (.bl (decide (c ∈ z.cps.toList))) H) x y H Q)
def rNotInG (K : PySem.W.Frag) : R2 := fun x y H Q => rNotInD K x y H Q ∨ (rNotInT K x y H Q ∨ (fun x y H Q => ∃ (c : Nat) (z : Str), x = .str ⟨#[c]⟩ ∧ y = .str z ∧ Q (.bl (!decide (c ∈ z.cps.toList))) H) x y H Q)
theorem or_inG (hu : X.A.units + 65 < cLine) : OpR X (compareOp .In) (rInG X.K) := (op_inD hu).or ((op_inT hu).or op_in_sign)
theorem or_notInG (hu : X.A.units + 65 < cLine) : OpR X (compareOp .NotIn) (rNotInG X.K) := (op_notInD hu).or ((op_notInT hu).or op_notIn_sign)
theorem od_inG : OpD X (rInG X.K) inG := by
  intro a b x y G H Wx Q hs ra rb q
  unfold inG at q
  split at q
  · split at q
    · rename_i h
      rw [Bool.and_eq_true] at h
      exact .inl ⟨_, _, Rp.dp _ _ (ra.up hs) (okD_can h.1), Rp.dp _ _ (rb.up hs) (okD_can h.2), h.1, h.2, q.done hs (.bl _)⟩
    · exact q.elim
  · split at q
    · rename_i h
      rw [Bool.and_eq_true] at h
      exact .inr (.inl ⟨_, _, Rp.dp _ _ (ra.up hs) (okD_can h.1), Rp.dp _ _ (rb.up hs) (okD_can h.2), h.1, h.2, q.done hs (.bl _)⟩)
    · exact q.elim
  · split at q
    · split at q
      · rename_i hc
        have hc := sign1_eq hc
        subst hc
        cases ra; cases rb
        exact .inr (.inr ⟨_, _, rfl, rfl, q.done hs (.bl _)⟩)
      · exact q.elim
    · exact q.elim
  · exact q.elim
theorem od_notInG : OpD X (rNotInG X.K) notInG := by
  intro a b x y G H Wx Q hs ra rb q
  unfold notInG at q
  split at q
  · split at q
    · rename_i h
      rw [Bool.and_eq_true] at h
      exact .inl ⟨_, _, Rp.dp _ _ (ra.up hs) (okD_can h.1), Rp.dp _ _ (rb.up hs) (okD_can h.2), h.1, h.2, q.done hs (.bl _)⟩
    · exact q.elim
  · split at q
    · rename_i h
      rw [Bool.and_eq_true] at h
      exact .inr (.inl ⟨_, _, Rp.dp _ _ (ra.up hs) (okD_can h.1), Rp.dp _ _ (rb.up hs) (okD_can h.2), h.1, h.2, q.done hs (.bl _)⟩)
    · exact q.elim
  · split at q
    · split at q
      · rename_i hc
        have hc := sign1_eq hc
        subst hc
        cases ra; cases rb
        exact .inr (.inr ⟨_, _, rfl, rfl, q.done hs (.bl _)⟩)
      · exact q.elim
    · exact q.elim
  · exact q.elim
/-- x in, not in a list that may be read -/
def inL (neg : Bool) (f : EnvS → R D) (g : EnvS → R (List D)) : EnvS → R D := fun ρ => (f ρ).bind fun a => (g ρ).bind fun ds => if okD a && okD (.list ds) then .ok (.bool (if neg then !ds.any fun z => PyData.eqv z a else ds.any fun z => PyData.eqv z a)) else .no
theorem dp_list {K : PySem.W.Frag} {G H : Hp} {a : Addr} {xs : List V} {ds : List D} (hs : Same G H) (h : H a = some (.lst xs)) (r : RpAll K G xs ds) (hk : okD (.list ds) = true) : Dp K H (.ref a) (.list ds) :=
  .lst (SqL.of h) (RpAll.dp ds xs (r.up hs) (by simpa [PyData.canLay0] using okD_can hk))
theorem tInL {neg : Bool} {f : EnvS → R D} {g : EnvS → R (List D)} {σ : L2.St} {H : Hp} {Q : VK} {r : R2} (hr : r = if neg then rNotInD X.K else rInD X.K) (q : tD X.K X.mg W (rpE X.K) (inL neg f g) σ H Q) : tOp r (tD X.K X.mg W (rpE X.K) f) (tL X.K X.mg W g) σ H Q := by
  obtain ⟨G, ρ, hs, he, q⟩ := q
  unfold inL at q
  refine Post.seq q hs he fun a v G1 H1 _ e1 r1 he1 q1 => ?_
  refine seqL Post.fin q1 e1.sub he1 fun ds b xs G2 H2 _ e2 h2 r2 he2 q2 => ?_
  split at q2
  · rename_i h
    rw [Bool.and_eq_true] at h
    subst hr
    cases neg with
    | true => exact ⟨a, ds, Rp.dp _ _ ((Rp.up r1 e2.gg).up e2.sub) (okD_can h.1), dp_list e2.sub h2 r2 h.2, h.1, h.2, q2.done e2.sub (.bl _)⟩
    | false => exact ⟨a, ds, Rp.dp _ _ ((Rp.up r1 e2.gg).up e2.sub) (okD_can h.1), dp_list e2.sub h2 r2 h.2, h.1, h.2, q2.done e2.sub (.bl _)⟩
  · exact q2.elim
theorem d_inL {a b : Expr} {f : EnvS → R D} {g : EnvS → R (List D)} (hu : X.A.units + 65 < cLine) (ha : PD X W a f) (hb : PDL X W b g) (hm : behindInMarks .In b = false := by rfl) : PD X W (.Compare a [.In] [b] pos) (inL false f g) := (pe_cmpR (op_inD hu) ha hb hm).wk fun _ _ _ q => tInL rfl q
theorem d_notInL {a b : Expr} {f : EnvS → R D} {g : EnvS → R (List D)} (hu : X.A.units + 65 < cLine) (ha : PD X W a f) (hb : PDL X W b g) (hm : behindInMarks .NotIn b = false := by rfl) : PD X W (.Compare a [.NotIn] [b] pos) (inL true f g) := (pe_cmpR (op_notInD hu) ha hb hm).wk fun _ _ _ q => tInL rfl q
theorem dt_inL {a b : Expr} {f : EnvS → R D} {g : EnvS → R (List D)} (hu : X.A.units + 65 < cLine) (ha : PD X W a f) (hb : PDL X W b g) (hm : behindInMarks .In b = false := by rfl) : PTD X W (.Compare a [.In] [b] pos) (fun ρ => asB (inL false f g ρ)) := (pt_cmpR (op_inD hu) ha hb hm).wk fun _ _ _ q => tTestD q fun _ q' => tInL rfl q'
theorem dt_notInL {a b : Expr} {f : EnvS → R D} {g : EnvS → R (List D)} (hu : X.A.units + 65 < cLine) (ha : PD X W a f) (hb : PDL X W b g) (hm : behindInMarks .NotIn b = false := by rfl) : PTD X W (.Compare a [.NotIn] [b] pos) (fun ρ => asB (inL true f g ρ)) := (pt_cmpR (op_notInD hu) ha hb hm).wk fun _ _ _ q => tTestD q fun _ q' => tInL rfl q'
/-- list * int -/
def repL (f : EnvS → R (List D)) (g : EnvS → R D) : EnvS → R (List D) := fun ρ => (f ρ).bind fun ds => (g ρ).bind fun d => match d with
  | .int k => if decide (0 ≤ k ∧ k < 100000) && lineOk (ds.length * k.toNat) then .ok (List.replicate k.toNat ds).flatten else .no
  | _ => .no
theorem RpAll.rep {K : PySem.W.Frag} {G : Hp} {xs : List V} {ds : List D} (r : RpAll K G xs ds) : ∀ k : Nat, RpAll K G (List.replicate k xs).flatten (List.replicate k ds).flatten
  | 0 => .nil
  | k + 1 => by
    rw [List.replicate_succ, List.replicate_succ, List.flatten_cons, List.flatten_cons]
    exact r.append (RpAll.rep r k)
theorem n_rep {a b : Expr} {f : EnvS → R (List D)} {g : EnvS → R D} (ha : PDL X W a f) (hb : PD X W b g) : PDN X W (.BinOp a .Mult b pos) (repL f g) := (pe_op op_rep ha hb).wk fun σ H Q ⟨G, ρ, hs, he, q⟩ => by
  unfold repL at q
  refine seqL PostN.fin q hs he fun ds a xs G1 H1 _ e1 h1 r1 he1 q1 => ?_
  refine seqP PostN.fin q1 e1.sub he1 fun i v G2 H2 _ e2 r2 he2 q2 => ?_
  cases i with
  | int k =>
    cases r2
    dsimp only at q2
    split at q2
    · rename_i h
      rw [Bool.and_eq_true] at h
      have hk := of_decide_eq_true h.1
      refine ⟨a, k, xs, rfl, rfl, e2.hh _ _ h1, by omega, by omega, by rw [r1.length]; exact lineOk_le h.2, fun p hp => ?_⟩
      exact q2 p _ G2 _ (Ext.newH e2.sub hp) hp (e2.sub.free hp) upd_same ((r1.up e2.gg).rep _)
    · exact q2.elim
  | _ => exact q2.elim
/-- s.split(sep) -/
def splF (f g : EnvS → R D) : EnvS → R (List D) := fun ρ => (f ρ).bind fun d => match d with
  | .str a => (g ρ).bind fun d' => match d' with
    | .str b => if decide (b.length ≠ 0) && lineOk (a.length + 2) then .ok ((Txt.split a b).map .str) else .no
    | _ => .no
  | _ => .no
theorem RpAll.strs {K : PySem.W.Frag} {G : Hp} : ∀ ys : List Str, RpAll K G (ys.map V.str) (ys.map PyData.str)
  | [] => .nil
  | y :: r => .cons (.str y) (RpAll.strs r)
theorem n_split {o e : Expr} {apos : Pos} {f g : EnvS → R D} (ho : PD X W o f) (he : PD X W e g) (hs : starEach [e] X.env = [(false, eval e X.env)] := by rfl) (hbase : attributeBase o "split" X.env (eval o X.env) = eval o X.env := by rfl) (hline : (apos.endLine == pos.line) = true := by rfl) :
    PDN X W (.Call (.Attribute o "split" apos) [e] [] pos) (splF f g) := (pe_split ho he hs hbase hline).wk fun σ H Q ⟨G, ρ, hs, he, q⟩ => by
  unfold splF at q
  refine seqP PostN.fin q hs he fun a v G1 H1 _ e1 r1 he1 q1 => ?_
  cases a with
  | str a =>
    cases r1
    refine ⟨⟨a, rfl⟩, ?_⟩
    refine seqP PostN.fin q1 e1.sub he1 fun b u G2 H2 _ e2 r2 he2 q2 => ?_
    cases b with
    | str b =>
      cases r2
      dsimp only at q2
      split at q2
      · rename_i h
        rw [Bool.and_eq_true] at h
        have hb := of_decide_eq_true h.1
        refine ⟨a, b, rfl, rfl, beq_eq_false_iff_ne.mpr hb, lineOk_le h.2, fun p hp => ?_⟩
        exact q2 p _ G2 _ (Ext.newH e2.sub hp) hp (e2.sub.free hp) upd_same (RpAll.strs _)
      · exact q2.elim
    | _ => exact q2.elim
  | _ => exact q1.elim
/-- int(..) of an int, a truth value, a text -/
def intG : List D → R D := fun ds => match ds with
  | [.int i] => .ok (.int i)
  | [.bool b] => .ok (.int (if b then 1 else 0))
  | [.str s] => match PySem.intText? s with
    | some n => if decide (s.length ≤ 640) then .ok (.int n) else .no
    | none => .no
  | _ => .no
def rIntG : List V → Hp → VK → Prop := fun xs H Q => ((∃ i, xs = [.int i] ∧ Q (.int i) H) ∨ ∃ k, xs = [.bl k] ∧ Q (.int (if k then 1 else 0)) H) ∨ ∃ a n, xs = [.str a] ∧ PySem.intText? a = some n ∧ a.length ≤ 640 ∧ Q (.int n) H
theorem cr_intG : CallR X (.type "int") rIntG := call_int1.or call_int_str
theorem cd_intG : CallD X rIntG intG := by
  intro ds xs G H Wx Q hs rr q
  unfold intG at q
  split at q
  · obtain ⟨v, rfl, r⟩ := rr.inv1
    cases r
    exact .inl (.inl ⟨_, rfl, q.done hs (.int _)⟩)
  · obtain ⟨v, rfl, r⟩ := rr.inv1
    cases r
    exact .inl (.inr ⟨_, rfl, q.done hs (.int _)⟩)
  · obtain ⟨v, rfl, r⟩ := rr.inv1
    cases r
    split at q
    · rename_i n e
      split at q
      · rename_i h
        exact .inr ⟨_, n, rfl, e, of_decide_eq_true h, q.done hs (.int _)⟩
      · exact q.elim
    · exact q.elim
  · exact q.elim
end
end TD

/-! TdTry: try .. except, over data. -/
namespace TD
open PySem PySem.Spec PyProof.Rows L2
def hdO (xs : List Str) (x : Str) (ρ1 : EnvS) : List (Str × (EnvS → Out)) → Out
  | [] => .ex x ρ1
  | (y, gs) :: r => if x ∈ xs ∧ y ∈ xs then (if x = y then (match gs ρ1 with
      | .ex _ _ => .no
      | o => o) else hdO xs x ρ1 r) else .no
def tryO (xs : List Str) (g : EnvS → Out) (hs : List (Str × (EnvS → Out))) : EnvS → Out := fun ρ => match g ρ with
  | .ex x ρ1 => hdO xs x ρ1 hs
  | o => o
/-- which error is which -/
def EX (K : PySem.W.Frag) (mg : Str → Option Value) (xs : List Str) : Prop := ∀ x, x ∈ xs → ∀ y, y ∈ xs → ∀ c c', mg x = some c → mg y = some c' → PySem.W.exmOne K c c' = some (decide (x = y))
inductive HsD (X : Cx) (wrh : List Nat) : List ExceptHandler → List (Str × (EnvS → Out)) → List (Value × (Addr → Value → Option Addr → TS)) → Prop
  | nil : HsD X wrh [] [] []
  | cons {x : Str} {c : Value} {gs : EnvS → Out} {b₀ : Stmt} {suite : List Stmt} {np pos' : Pos} {hds : List ExceptHandler} {l : List (Str × (EnvS → Out))} {ll : List (Value × (Addr → Value → Option Addr → TS))} (hm : X.mg x = some c)
      (hsu : ∀ (a : Addr) (oe : Obj) (cls : Value) (d : Option Addr) (pn : List (Addr × Obj)), Zc cls d oe → (∃ vs, oe.data = .fields vs) → PSsD (X.suite a ((a, oe) :: pn)) W0 wrh (b₀ :: suite) gs) (r : HsD X wrh hds l ll)
      (hg : Gl X x := by rfl) (hdb : (x == ("__debug__" : Str)) = false := by decide) :
      HsD X wrh (.ExceptHandler (some (.Name x np)) none (b₀ :: suite) pos' :: hds) ((x, gs) :: l) ((c, fun _ _ _ => tS X.K X.mg W0 wrh gs) :: ll)
section
variable {X : Cx} {W : WX} {wr wrh : List Nat} {pos : Pos}
theorem d_globI {x : Str} {i : Int} {t : Tok} (hm : X.mg x = some (.int i t)) (hg : Gl X x := by rfl) (hd : (x == ("__debug__" : Str)) = false := by decide) : PD X W (.Name x pos) (cD (.int i)) := d_glob (v := .int i) hg hm ⟨t, rfl⟩ (fun _ => .int i) hd
theorem d_globS {x : Str} {i : Str} {t : Tok} (hm : X.mg x = some (.str i t)) (hg : Gl X x := by rfl) (hd : (x == ("__debug__" : Str)) = false := by decide) : PD X W (.Name x pos) (cD (.str i)) := d_glob (v := .str i) hg hm ⟨t, rfl⟩ (fun _ => .str i) hd
theorem d_globT {x : Str} {a : Addr} {d : D} (hm : X.mg x = some (.ref a) ∧ ∀ G, Rp X.K G (.ref a) d) (hg : Gl X x := by rfl) (hd : (x == ("__debug__" : Str)) = false := by decide) : PD X W (.Name x pos) (cD d) := d_glob (v := .ref a) hg hm.1 rfl hm.2 hd
theorem HsD.hds {hds : List ExceptHandler} {l : List (Str × (EnvS → Out))} {ll : List (Value × (Addr → Value → Option Addr → TS))} (h : HsD X wrh hds l ll) : HdsOk X hds ll := by
  induction h with
  | nil => exact .nil
  | cons hm hsu r hg hdb ih => exact .cons ⟨hg, hdb, .inl hm⟩ (fun a oe cls d pn z v => hsu a oe cls d pn z v) ih
theorem ss_mono {wr' : List Nat} {st : List Stmt} {g : EnvS → Out} (h : PSsD X W wr st g) (s : ∀ i, i ∈ wr → i ∈ wr') : PSsD X W wr' st g := L2.PSs.wk h fun Dd σ H ⟨G0, H0, G, ρ, ok, q⟩ => ⟨G0, H0, G, ρ, ok, PostS.later q s (.refl _) .refl⟩
theorem hd_post {K : PySem.W.Frag} {mg : Str → Option Value} {xs : List Str} (hE : EX X.K X.mg xs) {hds : List ExceptHandler} {l : List (Str × (EnvS → Out))} {ll : List (Value × (Addr → Value → Option Addr → TS))} (h : HsD X wrh hds l ll)
    {G0 H0 G : Hp} {σ : L2.St} {ρ : EnvS} {x : Str} {ρ1 : EnvS} {Dd : Ends} {wr' : List Nat} (hw : ∀ i, i ∈ wrh → i ∈ wr') (q : PostS X.K X.mg W G0 H0 wr' σ ρ G (hdO xs x ρ1 l) Dd)
    {c : Value} {σ' : L2.St} {G' H' : Hp} (m : X.mg x = some c) (ok : StOk X.K G0 H0 G' H' σ' ρ1) (sg : Same G G') (fr : Fr wr' σ ρ σ' ρ1) : wMany X.K W Dd ll c none σ' H' := by
  induction h with
  | nil => exact q c σ' G' H' m ok sg fr
  | cons hm hsu r hg hdb ih =>
    rename_i y cy gs b0 suite np pos' hds l ll
    unfold hdO at q
    split at q
    · rename_i hmem
      refine ⟨decide (x = y), hE x hmem.1 y hmem.2 c cy m hm, fun hb a ha => ?_, fun hb => ?_⟩
      · have e := of_decide_eq_true hb
        rw [if_pos e] at q
        refine ⟨G0, H0, G', ρ1, ok, ?_⟩
        cases eg : gs ρ1 with
        | nx ρ2 => rw [eg] at q; exact PostS.later (W := W0) (o := .nx ρ2) (show PostS X.K X.mg W0 G0 H0 wr' σ ρ G (.nx ρ2) Dd from q) hw sg fr
        | rt d => rw [eg] at q; exact q
        | bk ρ2 => rw [eg] at q; exact PostS.later (W := W0) (o := .bk ρ2) (show PostS X.K X.mg W0 G0 H0 wr' σ ρ G (.bk ρ2) Dd from q) hw sg fr
        | ct ρ2 => rw [eg] at q; exact PostS.later (W := W0) (o := .ct ρ2) (show PostS X.K X.mg W0 G0 H0 wr' σ ρ G (.ct ρ2) Dd from q) hw sg fr
        | ex z ρ2 => rw [eg] at q; exact q.elim
        | no => rw [eg] at q; exact q
      · have e := of_decide_eq_false hb
        rw [if_neg e] at q
        exact ih q
    · exact q.elim
theorem s_try (xs : List Str) {body : List Stmt} {h₀ : ExceptHandler} {hds : List ExceptHandler} {g : EnvS → Out} {l : List (Str × (EnvS → Out))} {ll : List (Value × (Addr → Value → Option Addr → TS))} (tk : Takes X W) (hE : EX X.K X.mg xs)
    (hb : ∀ (W' : WX) (pn : List (Addr × Obj)) (xe : Value → Shared → Prop), Takes (X.tr pn xe) W' → PassesOwn (model X.prog X.w) X.A X.env xe → PSsD (X.tr pn xe) W' wr body g) (hh : HsD X wrh (h₀ :: hds) l ll)
    (hs : X.stack = X.env :: X.outer := by rfl) (hf : X.env.frame = some X.env.locals := by rfl) : PSD X W (wr ++ wrh) (.Try body (h₀ :: hds) [] [] pos) (tryO xs g l) :=
  (ps_try_many (tb := fun W' => tS X.K X.mg W' wr g) hs hf tk (fun W' pn xe t p => hb W' pn xe t p) hh.hds).wk fun Dd σ H ⟨G0, H0, G, ρ, ok, q⟩ => by
    refine ⟨G0, H0, G, ρ, ok, ?_⟩
    unfold tryO at q
    have mono : ∀ i, i ∈ wr → i ∈ wr ++ wrh := fun i h => List.mem_append_left _ h
    cases eg : g ρ with
    | nx ρ2 => rw [eg] at q; exact PostS.later (W := wMany X.K W Dd ll) (o := .nx ρ2) (show PostS X.K X.mg _ G0 H0 (wr ++ wrh) σ ρ G (.nx ρ2) Dd from q) mono (.refl _) .refl
    | rt d => rw [eg] at q; exact q
    | bk ρ2 => rw [eg] at q; exact PostS.later (W := wMany X.K W Dd ll) (o := .bk ρ2) (show PostS X.K X.mg _ G0 H0 (wr ++ wrh) σ ρ G (.bk ρ2) Dd from q) mono (.refl _) .refl
    | ct ρ2 => rw [eg] at q; exact PostS.later (W := wMany X.K W Dd ll) (o := .ct ρ2) (show PostS X.K X.mg _ G0 H0 (wr ++ wrh) σ ρ G (.ct ρ2) Dd from q) mono (.refl _) .refl
    | ex x ρ1 =>
      rw [eg] at q
      exact fun c σ' G' H' m ok' sg fr => hd_post (K := X.K) (mg := X.mg) hE hh (fun i h => List.mem_append_right _ h) q m ok' sg (fr.mono mono)
    | no => rw [eg] at q; exact q
end
end TD

/-! TdEval: reckoning with the functions of data. -/
namespace TD
open PySem PySem.Spec PyProof.Rows L2
section
variable {ρ : EnvS} {f f' f3 : EnvS → R D} {g g' g3 : EnvS → R (List D)} {t t' : EnvS → R Bool} {o o' : EnvS → Out} {i j l : Nat} {k k' : D → D → R D}
def rtK (r : R D) (ρ : EnvS) : Out := r.out ρ fun d => .rt d
def exK (r : R D) (ρ : EnvS) : Out := r.out ρ fun _ => .nx ρ
def ifK (r : R Bool) (o o' : EnvS → Out) (ρ : EnvS) : Out := r.out ρ fun b => if b = true then o ρ else o' ρ
def stK (i : Nat) (r : R D) (ρ : EnvS) : Out := r.out ρ fun d => .nx (ρ.set i (some (.pu d)))
def owK (i : Nat) (r : R (List D)) (ρ : EnvS) : Out := r.out ρ fun d => .nx (ρ.set i (some (.ow d)))
def unK (r : R D) (h : D → EnvS → R EnvS) (ρ : EnvS) : Out := r.out ρ fun d => grd (h d ρ)
def parK (i j : Nat) (r : R (List D)) (ρ : EnvS) : Out := r.out ρ fun ds => match ds with
  | [a, b] => .nx ((ρ.set i (some (.pu a))).set j (some (.pu b)))
  | _ => .no
def par3K (i j l : Nat) (r : R (List D)) (ρ : EnvS) : Out := r.out ρ fun ds => match ds with
  | [a, b, c] => .nx (((ρ.set i (some (.pu a))).set j (some (.pu b))).set l (some (.pu c)))
  | _ => .no
def k2 (k : D → D → R D) (a b : R D) : R D := a.bind fun x => b.bind fun y => k x y
def notK (r : R Bool) : R Bool := r.bind fun b => .ok (!b)
def andK (r : R Bool) (t : EnvS → R Bool) (ρ : EnvS) : R Bool := r.bind fun b => if b = true then t ρ else .ok false
def orK (r : R Bool) (t : EnvS → R Bool) (ρ : EnvS) : R Bool := r.bind fun b => if b = true then .ok true else t ρ
def andVK (r : R Bool) (t : EnvS → R D) (ρ : EnvS) : R D := r.bind fun b => if b = true then t ρ else .ok (.bool false)
def orVK (r : R Bool) (t : EnvS → R D) (ρ : EnvS) : R D := r.bind fun b => if b = true then .ok (.bool true) else t ρ
def notVK (r : R Bool) : R D := r.bind fun b => .ok (.bool !b)
def ifDK (r : R Bool) (f f' : EnvS → R D) (ρ : EnvS) : R D := r.bind fun b => if b = true then f ρ else f' ρ
def chK (c : R D) (k' : D → D → R D) (b : R D) (f3 : EnvS → R D) (ρ : EnvS) : R D := c.bind fun c => b.bind fun b => match c with
  | .bool true => (f3 ρ).bind fun d => k' b d
  | .bool false => .ok (.bool false)
  | _ => .no
def cnK (a : R D) (as : R (List D)) : R (List D) := a.bind fun a => as.bind fun as => .ok (a :: as)
def tuK (g : R (List D)) : R D := g.bind fun as => if lineOk as.length then .ok (.tuple as) else .no
def nwK (g : R (List D)) : R (List D) := g.bind fun as => if lineOk as.length then .ok as else .no
def lsK (g : R (List D)) : R D := g.bind fun ds => .ok (.list ds)
def alK (f : R D) : R (List D) := f.bind fun d => match d with
  | .list ds => .ok ds
  | _ => .no
def smK (f : R D) : R (Option Int) := f.bind fun d => match d with
  | .int i => .ok (some i)
  | _ => .no
def slK (f : R D) (h h' : R (Option Int)) : R D := f.bind fun d => h.bind fun lo => h'.bind fun hi => match d with
  | .tuple ds => .ok (.tuple (cutD ds lo hi))
  | .list ds => .ok (.list (cutD ds lo hi))
  | .str z => if lineOk z.length then .ok (.str (cutS z lo hi)) else .no
  | _ => .no
def slLK (g : R (List D)) (h h' : R (Option Int)) : R (List D) := g.bind fun ds => h.bind fun lo => h'.bind fun hi => .ok (cutD ds lo hi)
def caK (g g' : R (List D)) : R (List D) := g.bind fun a => g'.bind fun b => if lineOk (a.length + b.length) then .ok (a ++ b) else .no
def ixLK (g : R (List D)) (f : R D) : R D := g.bind fun ds => f.bind fun i => ixD (.list ds) i
def cuK (n : Nat) (F : List D → R D) (g : R (List D)) : R D := g.bind fun as => if as.length = n then F as else .no
def sqK (f : R D) : R (List D) := f.bind fun d => match d with
  | .list ds => .ok ds
  | .tuple ds => .ok ds
  | .str x => if lineOk x.length then .ok (x.cps.toList.map fun c => .str ⟨#[c]⟩) else .no
  | _ => .no
def loK (g : R (List D)) (h : D → EnvS → R EnvS) (o : EnvS → Out) (ρ : EnvS) : Out := g.out ρ fun ds => forO h o ds ρ
def lcK (g : R (List D)) (h : D → EnvS → R EnvS) (t : EnvS → R Bool) (f : EnvS → R D) (vs : List Nat) (ρ : EnvS) : R (List D) := g.bind fun ds => if lineOk ds.length then compO h t f ds (wipeS ρ vs) else .no
def reK (g : R (List D)) (f : R D) : R (List D) := g.bind fun ds => f.bind fun d => match d with
  | .int k => if decide (0 ≤ k ∧ k < 100000) && lineOk (ds.length * k.toNat) then .ok (List.replicate k.toNat ds).flatten else .no
  | _ => .no
def inK (neg : Bool) (f : R D) (g : R (List D)) : R D := f.bind fun a => g.bind fun ds => if okD a && okD (.list ds) then .ok (.bool (if neg then !ds.any fun z => PyData.eqv z a else ds.any fun z => PyData.eqv z a)) else .no
def rgK (f : R D) : R (List D) := f.bind fun d => match d with
  | .int i => if rngOk i then .ok (rngD 0 i.toNat) else .no
  | _ => .no
def cgK (h : R EnvS) (h' : List D → EnvS → R EnvS) (ds : List D) : R EnvS := h.bind fun ρ1 => h' ds ρ1
def appK (i : Nat) (x : Option (Option Sl)) (r : R D) (ρ : EnvS) : Out := match x with
  | some (some (.ow ds)) => r.out ρ fun d => if lineOk (ds.length + 1) then .nx (ρ.set i (some (.ow (ds ++ [d])))) else .no
  | _ => .no
def tryK (xs : List Str) (r : Out) (hs : List (Str × (EnvS → Out))) : Out := match r with
  | .ex x ρ1 => hdO xs x ρ1 hs
  | o => o
def fnK (r : Out) : R D := match r with
  | .rt d => .ok d
  | .nx _ => .ok .none
  | .ex x _ => .ex x
  | _ => .no
theorem fnR_ap {n : Nat} {ds : List D} : fnR n o ds = fnK (o (argS n ds)) := rfl
@[simp] theorem fnK_rt {d : D} : fnK (.rt d) = .ok d := rfl
@[simp] theorem fnK_nx : fnK (.nx ρ) = .ok .none := rfl
@[simp] theorem fnK_ex {x : Str} : fnK (.ex x ρ) = .ex x := rfl
@[simp] theorem tryO_ap {xs : List Str} {hs : List (Str × (EnvS → Out))} : tryO xs o hs ρ = tryK xs (o ρ) hs := rfl
@[simp] theorem tryK_ex {xs : List Str} {x : Str} {hs : List (Str × (EnvS → Out))} : tryK xs (.ex x ρ) hs = hdO xs x ρ hs := rfl
@[simp] theorem tryK_nx {xs : List Str} {hs : List (Str × (EnvS → Out))} : tryK xs (.nx ρ) hs = .nx ρ := rfl
@[simp] theorem tryK_rt {xs : List Str} {d : D} {hs : List (Str × (EnvS → Out))} : tryK xs (.rt d) hs = .rt d := rfl
@[simp] theorem sqO_ap : sqO o o' ρ = (o ρ).seq o' := rfl
@[simp] theorem nxO_ap : nxO ρ = .nx ρ := rfl
@[simp] theorem rtO_ap : rtO f ρ = rtK (f ρ) ρ := rfl
@[simp] theorem rtK_ok {d : D} : rtK (.ok d) ρ = .rt d := rfl
@[simp] theorem rtK_ex {x : Str} : rtK (.ex x) ρ = .ex x ρ := rfl
@[simp] theorem exO_ap : exO f ρ = exK (f ρ) ρ := rfl
@[simp] theorem exK_ok {d : D} : exK (.ok d) ρ = .nx ρ := rfl
@[simp] theorem exK_ex {x : Str} : exK (.ex x) ρ = .ex x ρ := rfl
@[simp] theorem ifO_ap : ifO t o o' ρ = ifK (t ρ) o o' ρ := rfl
@[simp] theorem ifK_t : ifK (.ok true) o o' ρ = o ρ := rfl
@[simp] theorem ifK_f : ifK (.ok false) o o' ρ = o' ρ := rfl
@[simp] theorem ifK_ex {x : Str} : ifK (.ex x) o o' ρ = .ex x ρ := rfl
@[simp] theorem stO_ap : stO i f ρ = stK i (f ρ) ρ := rfl
@[simp] theorem stK_ok {d : D} : stK i (.ok d) ρ = .nx (ρ.set i (some (.pu d))) := rfl
@[simp] theorem stK_ex {x : Str} : stK i (.ex x) ρ = .ex x ρ := rfl
@[simp] theorem owO_ap : owO i g ρ = owK i (g ρ) ρ := rfl
@[simp] theorem owK_ok {d : List D} : owK i (.ok d) ρ = .nx (ρ.set i (some (.ow d))) := rfl
@[simp] theorem unO_ap {h : D → EnvS → R EnvS} : unO f h ρ = unK (f ρ) h ρ := rfl
@[simp] theorem unK_ok {d : D} {h : D → EnvS → R EnvS} : unK (.ok d) h ρ = grd (h d ρ) := rfl
@[simp] theorem grd_ok : grd (.ok ρ) = .nx ρ := rfl
@[simp] theorem parO_ap : parO i j g ρ = parK i j (g ρ) ρ := rfl
@[simp] theorem parK_ok {a b : D} : parK i j (.ok [a, b]) ρ = .nx ((ρ.set i (some (.pu a))).set j (some (.pu b))) := rfl
@[simp] theorem par3O_ap : par3O i j l g ρ = par3K i j l (g ρ) ρ := rfl
@[simp] theorem par3K_ok {a b c : D} : par3K i j l (.ok [a, b, c]) ρ = .nx (((ρ.set i (some (.pu a))).set j (some (.pu b))).set l (some (.pu c))) := rfl
@[simp] theorem set_nil {x : Option Sl} : List.set ([] : EnvS) i x = [] := rfl
@[simp] theorem varD_zero {d : D} {r : EnvS} : varD 0 (some (.pu d) :: r) = .ok d := rfl
@[simp] theorem varD_succ {x : Option Sl} {r : EnvS} : varD (i + 1) (x :: r) = varD i r := rfl
@[simp] theorem ownD_zero {d : List D} {r : EnvS} : ownD 0 (some (.ow d) :: r) = .ok d := rfl
@[simp] theorem ownD_succ {x : Option Sl} {r : EnvS} : ownD (i + 1) (x :: r) = ownD i r := rfl
@[simp] theorem cD_ap {d : D} : cD d ρ = .ok d := rfl
@[simp] theorem asF_ap : asF f ρ = asB (f ρ) := rfl
@[simp] theorem asB_ok {b : Bool} : asB (.ok (.bool b)) = .ok b := rfl
@[simp] theorem asB_ex {x : Str} : asB (.ex x) = .ex x := rfl
@[simp] theorem bin2_ap : bin2 k f f' ρ = k2 k (f ρ) (f' ρ) := rfl
@[simp] theorem k2_ok {a b : D} : k2 k (.ok a) (.ok b) = k a b := rfl
@[simp] theorem k2_ex {x : Str} {b : R D} : k2 k (.ex x) b = .ex x := rfl
@[simp] theorem k2_ex2 {a : D} {x : Str} : k2 k (.ok a) (.ex x) = .ex x := rfl
@[simp] theorem un1_ap {k : D → R D} : un1 k f ρ = (f ρ).bind k := rfl
@[simp] theorem notB_ap : notB t ρ = notK (t ρ) := rfl
@[simp] theorem notK_ok {b : Bool} : notK (.ok b) = .ok (!b) := rfl
@[simp] theorem notK_ex {x : Str} : notK (.ex x) = .ex x := rfl
@[simp] theorem andB_ap : andB t t' ρ = andK (t ρ) t' ρ := rfl
@[simp] theorem andK_t : andK (.ok true) t ρ = t ρ := rfl
@[simp] theorem andK_f : andK (.ok false) t ρ = .ok false := rfl
@[simp] theorem orB_ap : orB t t' ρ = orK (t ρ) t' ρ := rfl
@[simp] theorem orK_t : orK (.ok true) t ρ = .ok true := rfl
@[simp] theorem orK_f : orK (.ok false) t ρ = t ρ := rfl
@[simp] theorem andV_ap : andV f f' ρ = andVK (asB (f ρ)) f' ρ := rfl
@[simp] theorem andVK_t : andVK (.ok true) f ρ = f ρ := rfl
@[simp] theorem andVK_f : andVK (.ok false) f ρ = .ok (.bool false) := rfl
@[simp] theorem orV_ap : orV f f' ρ = orVK (asB (f ρ)) f' ρ := rfl
@[simp] theorem orVK_t : orVK (.ok true) f ρ = .ok (.bool true) := rfl
@[simp] theorem orVK_f : orVK (.ok false) f ρ = f ρ := rfl
@[simp] theorem notV_ap : notV f ρ = notVK (asB (f ρ)) := rfl
@[simp] theorem notVK_ok {b : Bool} : notVK (.ok b) = .ok (.bool !b) := rfl
@[simp] theorem ifD_ap : ifD t f f' ρ = ifDK (t ρ) f f' ρ := rfl
@[simp] theorem ifDK_t : ifDK (.ok true) f f' ρ = f ρ := rfl
@[simp] theorem ifDK_f : ifDK (.ok false) f f' ρ = f' ρ := rfl
theorem chD_ap : chD k k' f f' f3 ρ = chK (k2 k (f ρ) (f' ρ)) k' (f' ρ) f3 ρ := by
  unfold chD chK k2
  cases f ρ <;> cases f' ρ <;> rfl
@[simp] theorem chK_t {b : D} : chK (.ok (.bool true)) k' (.ok b) f3 ρ = k2 k' (.ok b) (f3 ρ) := rfl
@[simp] theorem chK_f {b : D} : chK (.ok (.bool false)) k' (.ok b) f3 ρ = .ok (.bool false) := rfl
@[simp] theorem nilA_ap : nilA ρ = .ok [] := rfl
@[simp] theorem consA_ap : consA f g ρ = cnK (f ρ) (g ρ) := rfl
@[simp] theorem cnK_ok {a : D} {as : List D} : cnK (.ok a) (.ok as) = .ok (a :: as) := rfl
@[simp] theorem cnK_ex {x : Str} {r : R (List D)} : cnK (.ex x) r = .ex x := rfl
@[simp] theorem cnK_ex2 {a : D} {x : Str} : cnK (.ok a) (.ex x) = .ex x := rfl
@[simp] theorem tupD_ap : tupD g ρ = tuK (g ρ) := rfl
@[simp] theorem tuK_0 : tuK (.ok []) = .ok (.tuple []) := rfl
@[simp] theorem tuK_1 {a : D} : tuK (.ok [a]) = .ok (.tuple [a]) := rfl
@[simp] theorem tuK_2 {a b : D} : tuK (.ok [a, b]) = .ok (.tuple [a, b]) := rfl
@[simp] theorem tuK_3 {a b c : D} : tuK (.ok [a, b, c]) = .ok (.tuple [a, b, c]) := rfl
@[simp] theorem tuK_4 {a b c d : D} : tuK (.ok [a, b, c, d]) = .ok (.tuple [a, b, c, d]) := rfl
@[simp] theorem tuK_ex {x : Str} : tuK (.ex x) = .ex x := rfl
@[simp] theorem newD_ap : newD g ρ = nwK (g ρ) := rfl
@[simp] theorem nwK_0 : nwK (.ok []) = .ok [] := rfl
@[simp] theorem lstF_ap : lstF g ρ = lsK (g ρ) := rfl
@[simp] theorem lsK_ok {ds : List D} : lsK (.ok ds) = .ok (.list ds) := rfl
@[simp] theorem asLF_ap : asLF f ρ = alK (f ρ) := rfl
@[simp] theorem alK_ok {ds : List D} : alK (.ok (.list ds)) = .ok ds := rfl
@[simp] theorem noP_ap : noP ρ = .ok none := rfl
@[simp] theorem someP_ap : someP f ρ = smK (f ρ) := rfl
@[simp] theorem smK_ok {a : Int} : smK (.ok (.int a)) = .ok (some a) := rfl
@[simp] theorem slcG_ap {h h' : EnvS → R (Option Int)} : slcG f h h' ρ = slK (f ρ) (h ρ) (h' ρ) := rfl
@[simp] theorem slK_t {ds : List D} {lo hi : Option Int} : slK (.ok (.tuple ds)) (.ok lo) (.ok hi) = .ok (.tuple (cutD ds lo hi)) := rfl
@[simp] theorem slK_l {ds : List D} {lo hi : Option Int} : slK (.ok (.list ds)) (.ok lo) (.ok hi) = .ok (.list (cutD ds lo hi)) := rfl
theorem slK_s {z : Str} {lo hi : Option Int} : slK (.ok (.str z)) (.ok lo) (.ok hi) = if lineOk z.length then .ok (.str (cutS z lo hi)) else .no := rfl
@[simp] theorem slcL_ap {h h' : EnvS → R (Option Int)} : slcL g h h' ρ = slLK (g ρ) (h ρ) (h' ρ) := rfl
@[simp] theorem slLK_ok {ds : List D} {lo hi : Option Int} : slLK (.ok ds) (.ok lo) (.ok hi) = .ok (cutD ds lo hi) := rfl
@[simp] theorem catL_ap : catL g g' ρ = caK (g ρ) (g' ρ) := rfl
@[simp] theorem ixL_ap : ixL g f ρ = ixLK (g ρ) (f ρ) := rfl
@[simp] theorem ixLK_ok {ds : List D} {d : D} : ixLK (.ok ds) (.ok d) = ixD (.list ds) d := rfl
@[simp] theorem callF_ap {k : List D → R D} : callF k g ρ = (g ρ).bind k := rfl
@[simp] theorem callN_ap {k : List D → R (List D)} : callN k g ρ = (g ρ).bind k := rfl
@[simp] theorem callU_ap {n : Nat} {F : List D → R D} : callU n F g ρ = cuK n F (g ρ) := rfl
@[simp] theorem cuK_0 {F : List D → R D} : cuK 0 F (.ok []) = F [] := rfl
@[simp] theorem cuK_1 {F : List D → R D} {a : D} : cuK 1 F (.ok [a]) = F [a] := rfl
@[simp] theorem cuK_2 {F : List D → R D} {a b : D} : cuK 2 F (.ok [a, b]) = F [a, b] := rfl
@[simp] theorem cuK_3 {F : List D → R D} {a b c : D} : cuK 3 F (.ok [a, b, c]) = F [a, b, c] := rfl
@[simp] theorem cuK_ex {n : Nat} {F : List D → R D} {x : Str} : cuK n F (.ex x) = .ex x := rfl
@[simp] theorem yesB_ap : yesB ρ = .ok true := rfl
@[simp] theorem seqF_ap : seqF f ρ = sqK (f ρ) := rfl
@[simp] theorem sqK_l {ds : List D} : sqK (.ok (.list ds)) = .ok ds := rfl
@[simp] theorem sqK_t {ds : List D} : sqK (.ok (.tuple ds)) = .ok ds := rfl
theorem sqK_s {x : Str} : sqK (.ok (.str x)) = if lineOk x.length then .ok (x.cps.toList.map fun c => .str ⟨#[c]⟩) else .no := rfl
@[simp] theorem loO_ap {h : D → EnvS → R EnvS} : loO g h o ρ = loK (g ρ) h o ρ := rfl
@[simp] theorem loK_ok {h : D → EnvS → R EnvS} {ds : List D} : loK (.ok ds) h o ρ = forO h o ds ρ := rfl
@[simp] theorem lcF_ap {h : D → EnvS → R EnvS} {vs : List Nat} : lcF g h t f vs ρ = lcK (g ρ) h t f vs ρ := rfl
theorem lcK_ok {h : D → EnvS → R EnvS} {vs : List Nat} {ds : List D} (hl : lineOk ds.length = true) : lcK (.ok ds) h t f vs ρ = compO h t f ds (wipeS ρ vs) := if_pos hl
@[simp] theorem repL_ap : repL g f ρ = reK (g ρ) (f ρ) := rfl
@[simp] theorem inL_ap {neg : Bool} : inL neg f g ρ = inK neg (f ρ) (g ρ) := rfl
@[simp] theorem rng1F_ap : rng1F f ρ = rgK (f ρ) := rfl
@[simp] theorem nmG_ap {d : D} : nmG i d ρ = .ok (ρ.set i (some (.pu d))) := rfl
@[simp] theorem tupG2_ap {h : List D → EnvS → R EnvS} {a b : D} : tupG 2 h (.tuple [a, b]) ρ = h [a, b] ρ := rfl
@[simp] theorem consG_ap {h : D → EnvS → R EnvS} {h' : List D → EnvS → R EnvS} {d : D} {ds : List D} : consG h h' (d :: ds) ρ = cgK (h d ρ) h' ds := rfl
@[simp] theorem cgK_ok {h' : List D → EnvS → R EnvS} {ds : List D} : cgK (.ok ρ) h' ds = h' ds ρ := rfl
@[simp] theorem nilG_ap : nilG [] ρ = .ok ρ := rfl
@[simp] theorem wipeS_nil : wipeS ρ [] = ρ := rfl
@[simp] theorem wipeS_cons {v : Nat} {vs : List Nat} : wipeS ρ (v :: vs) = (wipeS ρ vs).set v none := rfl
theorem isiD_ap {T : String} : isiD T f ρ = (f ρ).bind fun d => match d with
  | .dict _ => .no
  | d => match kitB (tyName d) T with
    | some b => .ok (.bool b)
    | none => .no := rfl
def isiK (T : String) (d : D) : R D := match d with
  | .dict _ => .no
  | d => match kitB (tyName d) T with
    | some b => .ok (.bool b)
    | none => .no
@[simp] theorem isiD_ap' {T : String} : isiD T f ρ = (f ρ).bind (isiK T) := rfl
@[simp] theorem appO_ap : appO i f ρ = appK i ρ[i]? (f ρ) ρ := by
  unfold appO appK
  generalize ρ[i]? = x
  rcases x with _ | (_ | (d | d)) <;> rfl
theorem appK_ok {d : D} {ds : List D} (h : lineOk (ds.length + 1) = true) : appK i (some (some (.ow ds))) (.ok d) ρ = .nx (ρ.set i (some (.ow (ds ++ [d])))) := if_pos h
end
/-! ### the primitive functions at their kinds -/
@[simp] theorem addD_int {a b : Int} : addD (.int a) (.int b) = .ok (.int (a + b)) := rfl
@[simp] theorem addD_str {a b : Str} : addD (.str a) (.str b) = if lineOk (a.length + b.length) then .ok (.str (a ++ b)) else .no := rfl
@[simp] theorem subD_int {a b : Int} : subD (.int a) (.int b) = .ok (.int (a - b)) := rfl
theorem mulD_int {a b : Int} : mulD (.int a) (.int b) = if mulOk a b then .ok (.int (a * b)) else .no := rfl
theorem fdivD_int {a b : Int} : fdivD (.int a) (.int b) = if divOk b then .ok (.int (a.fdiv b)) else .no := rfl
theorem modD_int {a b : Int} : modD (.int a) (.int b) = if decide (b ≠ 0) then .ok (.int (a.fmod b)) else .no := rfl
@[simp] theorem negD_int {a : Int} : negD (.int a) = .ok (.int (-a)) := rfl
@[simp] theorem ltD_int {a b : Int} : ltD (.int a) (.int b) = .ok (.bool (decide (a < b))) := rfl
@[simp] theorem leD_int {a b : Int} : leD (.int a) (.int b) = .ok (.bool (decide (a ≤ b))) := rfl
@[simp] theorem gtD_int {a b : Int} : gtD (.int a) (.int b) = .ok (.bool (decide (b < a))) := rfl
@[simp] theorem geD_int {a b : Int} : geD (.int a) (.int b) = .ok (.bool (decide (b ≤ a))) := rfl
@[simp] theorem absK_int {a : Int} : absK [.int a] = .ok (.int (if a < 0 then -a else a)) := rfl
@[simp] theorem intG_int {a : Int} : intG [.int a] = .ok (.int a) := rfl
@[simp] theorem lenK_list {ds : List D} : lenK [.list ds] = .ok (.int ds.length) := rfl
@[simp] theorem lenK_tuple {ds : List D} : lenK [.tuple ds] = .ok (.int ds.length) := rfl
@[simp] theorem tupK_list {ds : List D} : tupK [.list ds] = .ok (.tuple ds) := rfl
@[simp] theorem tupK_tuple {ds : List D} : tupK [.tuple ds] = .ok (.tuple ds) := rfl
@[simp] theorem ixT0 {a : D} {r : List D} : ixD (.tuple (a :: r)) (.int 0) = .ok a := rfl
@[simp] theorem ixT1 {a b : D} {r : List D} : ixD (.tuple (a :: b :: r)) (.int 1) = .ok b := rfl
@[simp] theorem ixT2 {a b c : D} {r : List D} : ixD (.tuple (a :: b :: c :: r)) (.int 2) = .ok c := rfl
@[simp] theorem ixT3 {a b c d : D} {r : List D} : ixD (.tuple (a :: b :: c :: d :: r)) (.int 3) = .ok d := rfl
@[simp] theorem ixT4 {a b c d e : D} {r : List D} : ixD (.tuple (a :: b :: c :: d :: e :: r)) (.int 4) = .ok e := rfl
@[simp] theorem ixL0 {a : D} {r : List D} : ixD (.list (a :: r)) (.int 0) = .ok a := rfl
@[simp] theorem ixL1 {a b : D} {r : List D} : ixD (.list (a :: b :: r)) (.int 1) = .ok b := rfl
theorem ixD_list_nat {ds : List D} {n : Nat} {d : D} (h : ds[n]? = some d) : ixD (.list ds) (.int (n : Int)) = .ok d := by
  show optR (atD ds (n : Int)) = _
  unfold atD
  rw [if_pos (Int.natCast_nonneg n), Int.toNat_natCast, h]
  rfl
theorem ixD_tuple_nat {ds : List D} {n : Nat} {d : D} (h : ds[n]? = some d) : ixD (.tuple ds) (.int (n : Int)) = .ok d := by
  show optR (atD ds (n : Int)) = _
  unfold atD
  rw [if_pos (Int.natCast_nonneg n), Int.toNat_natCast, h]
  rfl
/-! ### kinds -/
theorem kit_tt : kitB "tuple" "tuple" = some true := by decide +kernel
theorem kit_it : kitB "int" "tuple" = some false := by decide +kernel
theorem kit_bt : kitB "bool" "tuple" = some false := by decide +kernel
theorem kit_st : kitB "str" "tuple" = some false := by decide +kernel
theorem kit_nt : kitB "NoneType" "tuple" = some false := by decide +kernel
theorem kit_lt : kitB "list" "tuple" = some false := by decide +kernel
theorem kit_ti : kitB "tuple" "int" = some false := by decide +kernel
theorem kit_ii : kitB "int" "int" = some true := by decide +kernel
theorem kit_bi : kitB "bool" "int" = some true := by decide +kernel
theorem kit_si : kitB "str" "int" = some false := by decide +kernel
theorem kit_ni : kitB "NoneType" "int" = some false := by decide +kernel
theorem kit_li : kitB "list" "int" = some false := by decide +kernel
theorem kit_tb : kitB "tuple" "bool" = some false := by decide +kernel
theorem kit_ib : kitB "int" "bool" = some false := by decide +kernel
theorem kit_bb : kitB "bool" "bool" = some true := by decide +kernel
theorem kit_sb : kitB "str" "bool" = some false := by decide +kernel
theorem kit_nb : kitB "NoneType" "bool" = some false := by decide +kernel
theorem kit_lb : kitB "list" "bool" = some false := by decide +kernel
theorem kit_ts : kitB "tuple" "str" = some false := by decide +kernel
theorem kit_is : kitB "int" "str" = some false := by decide +kernel
theorem kit_bs : kitB "bool" "str" = some false := by decide +kernel
theorem kit_ss : kitB "str" "str" = some true := by decide +kernel
theorem kit_ns : kitB "NoneType" "str" = some false := by decide +kernel
theorem kit_ls : kitB "list" "str" = some false := by decide +kernel
section
variable {ρ : EnvS} {f : EnvS → R D}
def isT : D → Bool | .tuple _ => true | _ => false
def isI : D → Bool | .int _ => true | .bool _ => true | _ => false
def isB : D → Bool | .bool _ => true | _ => false
def isS : D → Bool | .str _ => true | _ => false
def isDict : D → Bool | .dict _ => true | _ => false
theorem isi_tuple {d : D} (h : f ρ = .ok d) (hd : isDict d = false) : isiD "tuple" f ρ = .ok (.bool (isT d)) := by
  rw [isiD_ap, h]; cases d <;> first | (cases hd; done) | (simp only [R.bind, tyName, kit_tt, kit_it, kit_bt, kit_st, kit_nt, kit_lt, isT])
theorem isi_int {d : D} (h : f ρ = .ok d) (hd : isDict d = false) : isiD "int" f ρ = .ok (.bool (isI d)) := by
  rw [isiD_ap, h]; cases d <;> first | (cases hd; done) | (simp only [R.bind, tyName, kit_ti, kit_ii, kit_bi, kit_si, kit_ni, kit_li, isI])
theorem isi_bool {d : D} (h : f ρ = .ok d) (hd : isDict d = false) : isiD "bool" f ρ = .ok (.bool (isB d)) := by
  rw [isiD_ap, h]; cases d <;> first | (cases hd; done) | (simp only [R.bind, tyName, kit_tb, kit_ib, kit_bb, kit_sb, kit_nb, kit_lb, isB])
theorem isi_str {d : D} (h : f ρ = .ok d) (hd : isDict d = false) : isiD "str" f ρ = .ok (.bool (isS d)) := by
  rw [isiD_ap, h]; cases d <;> first | (cases hd; done) | (simp only [R.bind, tyName, kit_ts, kit_is, kit_bs, kit_ss, kit_ns, kit_ls, isS])
end
/-! ### loops -/
theorem forO_inv {h : D → EnvS → R EnvS} {gb : EnvS → Out} (Inv : Nat → EnvS → Prop) : ∀ (ds : List D) (n : Nat) (ρ : EnvS), Inv n ρ →
    (∀ i d ρ, ds[i]? = some d → Inv (n + i) ρ → ∃ ρ1 ρ2, h d ρ = .ok ρ1 ∧ (gb ρ1 = .nx ρ2 ∨ gb ρ1 = .ct ρ2) ∧ Inv (n + i + 1) ρ2) → ∃ ρ', forO h gb ds ρ = .nx ρ' ∧ Inv (n + ds.length) ρ'
  | [], n, ρ, h0, _ => ⟨ρ, rfl, h0⟩
  | d :: ds, n, ρ, h0, step => by
    obtain ⟨ρ1, ρ2, e1, e2, i2⟩ := step 0 d ρ rfl h0
    obtain ⟨ρ', e3, i3⟩ := forO_inv Inv ds (n + 1) ρ2 i2 fun i d' ρ' hd hi => by
      have := step (i + 1) d' ρ' (by simpa using hd) (by rw [show n + (i + 1) = n + 1 + i by omega]; exact hi)
      rw [show n + (i + 1) + 1 = n + 1 + i + 1 by omega] at this
      exact this
    refine ⟨ρ', ?_, by rw [show n + (d :: ds).length = n + 1 + ds.length by rw [List.length_cons]; omega]; exact i3⟩
    unfold forO
    rw [e1]
    rcases e2 with e2 | e2 <;> (dsimp only; rw [e2]; exact e3)
theorem forO_inv0 {h : D → EnvS → R EnvS} {gb : EnvS → Out} (Inv : Nat → EnvS → Prop) {ds : List D} {ρ : EnvS} (h0 : Inv 0 ρ)
    (step : ∀ i d ρ, ds[i]? = some d → Inv i ρ → ∃ ρ1 ρ2, h d ρ = .ok ρ1 ∧ (gb ρ1 = .nx ρ2 ∨ gb ρ1 = .ct ρ2) ∧ Inv (i + 1) ρ2) : ∃ ρ', forO h gb ds ρ = .nx ρ' ∧ Inv ds.length ρ' := by
  obtain ⟨ρ', e, i⟩ := forO_inv Inv ds 0 ρ h0 (fun i d ρ hd hi => by rw [Nat.zero_add] at hi ⊢; exact step i d ρ hd hi)
  exact ⟨ρ', e, by rw [Nat.zero_add] at i; exact i⟩
/-- a comprehension without a test -/
theorem compO_map {h : D → EnvS → R EnvS} {fe : EnvS → R D} {ρ : EnvS} (F : D → D) : ∀ (ds : List D), (∀ d ∈ ds, ∃ ρ1, h d ρ = .ok ρ1 ∧ fe ρ1 = .ok (F d)) → compO h yesB fe ds ρ = .ok (ds.map F)
  | [], _ => rfl
  | d :: ds, hd => by
    obtain ⟨ρ1, e1, e2⟩ := hd d List.mem_cons_self
    unfold compO
    rw [e1]
    dsimp only [yesB]
    rw [e2, compO_map F ds fun d h => hd d (List.mem_cons_of_mem _ h)]
    rfl
theorem compO_filter {h : D → EnvS → R EnvS} {t : EnvS → R Bool} {fe : EnvS → R D} {ρ : EnvS} (F : D → D) (p : D → Bool) : ∀ (ds : List D), (∀ d ∈ ds, ∃ ρ1, h d ρ = .ok ρ1 ∧ t ρ1 = .ok (p d) ∧ (p d = true → fe ρ1 = .ok (F d))) → compO h t fe ds ρ = .ok ((ds.filter p).map F)
  | [], _ => rfl
  | d :: ds, hd => by
    obtain ⟨ρ1, e1, e2, e3⟩ := hd d List.mem_cons_self
    have ih := compO_filter F p ds fun d h => hd d (List.mem_cons_of_mem _ h)
    unfold compO
    rw [e1]
    dsimp only
    rw [e2]
    cases hp : p d with
    | true => dsimp only; rw [e3 hp, ih, List.filter_cons_of_pos hp]; rfl
    | false => dsimp only; rw [ih, List.filter_cons_of_neg (by rw [hp]; exact Bool.false_ne_true)]
end TD

/-! TdRem: xs.remove(x), xs.index(x) over data. -/
namespace TD
open PySem PySem.Spec PyProof.Rows L2
def firstEq (ds : List D) (d : D) : Option Nat := ds.findIdx? fun z => PyData.eqv z d
theorem firstEq_some {ds : List D} {d : D} {j : Nat} (h : firstEq ds d = some j) : ∃ z, ds[j]? = some z ∧ PyData.eqv z d = true ∧ ∀ (m : Nat) (z' : D), m < j → ds[m]? = some z' → PyData.eqv z' d = false := by
  unfold firstEq at h
  obtain ⟨hj, h1, h2⟩ := List.findIdx?_eq_some_iff_getElem.mp h
  refine ⟨ds[j], List.getElem?_eq_getElem hj, h1, fun m z' hm hz => ?_⟩
  obtain ⟨hm', e⟩ := List.getElem?_eq_some_iff.mp hz
  have := h2 m hm
  rw [e] at this
  simpa using this
def rRemD (K : PySem.W.Frag) : V → List V → Hp → VK → Prop := fun x ys H Q => ∃ (a : Addr) (y : V) (d : PyData) (xs : List V) (ds : List PyData) (j : Nat) (z : PyData), x = V.ref a ∧ ys = [y] ∧ H a = some (.lst xs) ∧ DpAll K H xs ds ∧ Dp K H y d ∧
  SeqAt.shaped (.list ds) = true ∧ SeqAt.shaped d = true ∧ ds[j]? = some z ∧ PyData.eqv z d = true ∧ (∀ (m : Nat) (z' : PyData), m < j → ds[m]? = some z' → PyData.eqv z' d = false) ∧ Q .non (upd H a (.lst (xs.eraseIdx j)))
section
variable {X : Cx} {W : WX}
theorem mt_remD (hu : X.A.units + 65 < cLine) : MtR X "list.remove" (rRemD X.K) := by
  intro pins s σ H x xs v us Q I rx rxs h
  obtain ⟨a, y, d, ys, ds, j, z, rfl, rfl, hl, ha, hy, sl, sd, hz, hzj, hno, q⟩ := h
  cases rx
  cases rxs with
  | cons ry rt =>
    rename_i uy ut
    cases rt
    obtain ⟨bs, r1⟩ := Dp.reads I d y uy hy ry
    have hxs : PyData.canLayAll0 ds = true := SeqAt.canLay_of_shaped sl
    have hroom : X.A.units + 1 + min (PyData.depthAll ds) d.depth < cLine := room_in_shaped sd hu
    obtain ⟨hsz, its, n, rv, hlen, ho⟩ := I.lstM hl
    obtain ⟨as, h4⟩ := Dp.readsAll I ds _ its ha rv
    have hn : its.length = ds.length := SeqAt.ReadsAll.length ds its as h4
    have hmap : its.map (SeqAt.readOf s.heap) = ds := SeqAt.readsAll_map ds its as hxs h4
    have hsl := sizeLine_eq
    obtain ⟨hjd, _⟩ := List.getElem?_eq_some_iff.mp hz
    have hjl : j < its.length := by omega
    have hj : j < its.toArray.size := by simpa using hjl
    have at_ : ∀ (m : Nat) (hm : m < its.toArray.size) (z' : PyData), ds[m]? = some z' → SeqAt.readOf s.heap its.toArray[m] = z' := by
      intro m hm z' hz'
      have hml : m < its.length := by simpa using hm
      rw [← hmap, List.getElem?_map, List.getElem?_eq_getElem hml] at hz'
      have e1 : SeqAt.readOf s.heap its[m] = z' := Option.some.inj (show some (SeqAt.readOf s.heap its[m]) = some z' from hz')
      simpa using e1
    refine call_meets PySem.F.slot_list_remove ⟨_, ho, rfl⟩ PySem.F.entry_list_remove (PySem.F.args_list_remove_2 _ _)
      (SeqAt.list_removeAt a its.toArray n none #[] uy (fun u => PyData.eqv (SeqAt.readOf s.heap u) d) j hj ?_ ?_ (by rw [List.size_toArray]; omega)) ⟨ho, SeqAt.items_eqAt (vs := its.toArray) (show ReadsAll s.heap its.toArray.toList ds as from h4) r1 hxs (SeqAt.canLay_of_shaped sd) hroom, ?_⟩
    · show PyData.eqv (SeqAt.readOf s.heap its.toArray[j]) d = true
      rw [at_ j hj z hz]
      exact hzj
    · intro m hm hmj
      have hmd : m < ds.length := by omega
      have hz' : ds[m]? = some ds[m] := List.getElem?_eq_getElem hmd
      show PyData.eqv (SeqAt.readOf s.heap its.toArray[m]) d = false
      rw [at_ m hm _ hz']
      exact hno m _ hmj hz'
    · refine ⟨.non, _, I.lset (its' := its.eraseIdx j) hl ho ?_ (rv.eraseIdx j) ?_, rfl, q⟩
      · show its.toArray.eraseIdxIfInBounds j = (its.eraseIdx j).toArray
        rw [List.eraseIdxIfInBounds_toArray]
      · have := List.length_eraseIdx_le ys j
        omega
def remO (i : Nat) (f : EnvS → R D) : EnvS → Out := fun ρ => match ρ[i]? with
  | some (some (.ow ds)) => (f ρ).out ρ fun d => if okD d && okD (.list ds) then (match firstEq ds d with
    | some j => .nx (ρ.set i (some (.ow (ds.eraseIdx j))))
    | none => .no) else .no
  | _ => .no
theorem RpAll.erase {K : PySem.W.Frag} {G : Hp} : ∀ {xs : List V} {ds : List D} (j : Nat), RpAll K G xs ds → RpAll K G (xs.eraseIdx j) (ds.eraseIdx j)
  | _, _, _, .nil => .nil
  | _, _, 0, .cons _ r => r
  | _, _, j + 1, .cons a r => .cons a (RpAll.erase j r)
theorem s_rem (i : Nat) (hu : X.A.units + 65 < cLine) {x : Str} {e : Expr} {p apos cpos pos : Pos} {f : EnvS → R D} (he : PD X W e f) (hN : X.N[i]? = some x := by rfl) (hv : Vis X.env.scope x := by first | exact Or.inl rfl | exact Or.inr (Or.inl rfl) | exact Or.inr (Or.inr rfl)) (hd : (x == ("__debug__" : Str)) = false := by decide)
    (hcd : (x == ("__classdict__" : Str)) = false := by decide)
    (hbase : attributeBase (.Name x p) "remove" X.env (eval (.Name x p) X.env) = eval (.Name x p) X.env := by rfl)
    (hfew : ((backTo cpos (starEach [e] X.env)).all (fun x => !x.1) && (backToKw cpos (keywordEach [] X.env)).all (fun x => x.1.isSome)
      && decide ([e].length + ([] : List Keyword).length + (if ([] : List Keyword).isEmpty then 0 else 1) < 30)) = true := by rfl)
    (hline : (apos.endLine == cpos.line) = true := by rfl) (hs : starEach [e] X.env = (false, eval e X.env) :: starEach [] X.env := by rfl)
    (hsw : swapsWith (.Call (.Attribute (.Name x p) "remove" apos) [e] [] cpos) none pos.line X.env = pure false := by rfl) :
    PSD X W [i] (.Expr (.Call (.Attribute (.Name x p) "remove" apos) [e] [] cpos) pos) (remO i f) :=
  (ps_expr (pe_bm PySem.F.plainAttrs_list PySem.F.slot_list_remove PySem.F.type_list_remove (mt_remD hu) (pe_var hN hv hd hcd) (pa_cons he pa_nil hs) hbase hfew hline hs rfl) hsw).wk fun Dd σ H ⟨G0, H0, G, ρ, ok, q⟩ => by
    unfold remO at q
    split at q
    · rename_i ds hi
      obtain ⟨a, xs, h1, h2, n1, r1⟩ := ok.env.ow i ds hi
      refine ⟨_, h1, .inl ⟨rfl, xs, SqL.of h2⟩, outE q ok fun d v G1 H1 _ e1 rd ok1 q1 => ?_⟩
      split at q1
      · rename_i hk
        rw [Bool.and_eq_true] at hk
        split at q1
        · rename_i j hj
          obtain ⟨z, hz, hzj, hno⟩ := firstEq_some hj
          have hh := e1.hh _ _ h2
          refine ⟨a, v, d, xs, ds, j, z, rfl, rfl, hh, RpAll.dp ds xs ((r1.up e1.gg).up ok1.ext.sub) (by simpa [PyData.canLay0] using okD_can hk.2), Rp.dp _ _ (Rp.up rd ok1.ext.sub) (okD_can hk.1), hk.2, hk.1, hz, hzj, hno, ?_⟩
          exact q1 σ G1 _ (ok1.mut hi h1 ((r1.up e1.gg).erase j)) (.refl _) fun j hj => ⟨rfl, List.getElem?_set_ne (fun z => hj (by rw [z]; exact List.mem_singleton_self _))⟩
        · exact q1.elim
      · exact q1.elim
    · exact q.elim
end
end TD

/-! TdEnum: enumerate of a tuple. -/
namespace TD
open PySem PySem.Spec PyProof.Rows L2
theorem meets_enumT (l : Addr) (items : Array Value) (n : Nat) (dct : Option Addr) (sl : Array (Option Value)) :
    Meets (Builtin.«enumerate.__new__» ⟨[.type "enumerate", .ref l], []⟩) (fun _ R s => s.heap.get? l = some { cls := .type "tuple", dict := dct, data := .seq items n, slots := sl } ∧
      R (.ok (.ret (.ref (s.heap.push { cls := .type "tuple_iterator", data := .fields #[.ref l, .int 0 0] }).objs.size)))
        { s with heap := (s.heap.push { cls := .type "tuple_iterator", data := .fields #[.ref l, .int 0 0] }).push { cls := .type "enumerate", data := .fields #[.none, .bool false, .ref s.heap.objs.size, rawInt 0, .none, .none] } }) :=
  .of_wp fun prog w A R s h => by
    obtain ⟨hp, g, d, tk, os⟩ := s; obtain ⟨hl, h⟩ := h
    have hsub := sub_enumerate
    have hL : Heap.IsTuple (Shared.heap ⟨hp, g, d, tk, os⟩) l items := ⟨_, hl, rfl, n, rfl⟩
    wp_walk using AutoSeq1.wpAny_loadPart' hl
    refine wpAny_stack_any fun st => wpAny_pure ?_
    split
    · rename_i c _ _ _ _ _
      cases (c == Value.type "enumerate")
      · wp_walk using AutoSeq1.wpAny_loadPart' hl, wpAny_pyIter_tuple hL
        exact ⟨_, rfl, h⟩
      · wp_walk using AutoSeq1.wpAny_loadPart' hl, wpAny_pyIter_tuple hL
        exact ⟨_, rfl, h⟩
    · wp_walk using AutoSeq1.wpAny_loadPart' hl, wpAny_pyIter_tuple hL
      exact ⟨_, rfl, h⟩
section
variable {prog : Program} {w : World} {A : Around} {E : Value → Shared → Prop} {s : Shared}
theorem call_enumT {l : Addr} {items : Array Value} {Q : Value → Shared → Prop} (hL : s.heap.IsTuple l items)
    (h : ∀ h', IsEnum h' (s.heap.objs.size + 1) s.heap.objs.size 0 .none → h'.IsTupleIter s.heap.objs.size l 0 → h'.objs.size = s.heap.objs.size + 2 →
      (∀ b o, s.heap.get? b = some o → h'.get? b = some o) → Q (.ref (s.heap.objs.size + 1)) { s with heap := h' }) :
    wpAny (model prog w) A (call (.type "enumerate") [.ref l]) Q E s := by
  obtain ⟨⟨c, dct, dt, sl⟩, hl, hc, n, hd⟩ := hL
  replace hc : c = .type "tuple" := hc
  replace hd : dt = .seq items n := hd
  subst hc hd
  refine callType_new F.called_enumerate (by decide) (F.typeCall_enumerate_1 _) (F.newCall_enumerate_1 _) (fun obj => F.args_object_init_2 obj _) F.entry_enumerate_new
    (meets_enumT l items n dct sl) ⟨hl, ?_⟩
  have hz : (s.heap.push { cls := .type "tuple_iterator", data := .fields #[.ref l, .int 0 0] }).objs.size = s.heap.objs.size + 1 := Heap.size_push ..
  show _ ∧ _
  rw [hz]
  have he : IsEnum ((s.heap.push { cls := .type "tuple_iterator", data := .fields #[.ref l, .int 0 0] }).push
      { cls := .type "enumerate", data := .fields #[.none, .bool false, .ref s.heap.objs.size, rawInt 0, .none, .none] }) (s.heap.objs.size + 1) s.heap.objs.size 0 .none := by
    have := Heap.get?_push_size (s.heap.push { cls := .type "tuple_iterator", data := .fields #[.ref l, .int 0 0] })
      (o := { cls := .type "enumerate", data := .fields #[.none, .bool false, .ref s.heap.objs.size, rawInt 0, .none, .none] }) rfl
    rw [hz] at this; exact this
  refine ⟨⟨_, he, rfl⟩, h _ he ⟨_, Heap.get?_push_of_some _ (Heap.get?_push_size _ rfl), rfl, rfl⟩ (by rw [Heap.size_push, hz]) fun b o x => Heap.get?_push_of_some _ (Heap.get?_push_of_some _ x)⟩
end
def ItT (K : PySem.W.Frag) (a : Addr) : It :=
  ⟨fun i H => ∃ (xs : List V) (x : V), SqT K H a xs ∧ xs[i]? = some x, fun i H v H' => ∃ T x, v = .ref T ∧ H T = none ∧ H' = upd H T (.tup [.int (i : Nat), x]) ∧ ∀ xs, SqT K H a xs → xs[i]? = some x, fun i H => ∃ xs : List V, SqT K H a xs ∧ xs.length ≤ i⟩
theorem tuple_ne {h : Heap} {a it e : Addr} {items : Array Value} {i : Nat} {c : Int} {old : Value} (p : h.IsTuple a items) (hi : h.IsTupleIter it a i) (he : IsEnum h e it c old) : a ≠ it ∧ e ≠ a := by
  obtain ⟨o, ho, hc, _⟩ := p
  constructor
  · intro z
    subst z
    obtain ⟨o2, h2, c2, _⟩ := hi
    rw [ho] at h2
    cases h2
    rw [hc] at c2
    injection c2 with c3
    exact absurd c3 (by decide)
  · intro z
    subst z
    have h2 : h.get? e = some _ := he
    rw [ho] at h2
    cases h2
    injection hc with c3
    exact absurd c3 (by decide)
theorem turn_enumT {P : Program} {w : World} {K : PySem.W.Frag} {elts : List Expr} {kk : Nat} {tpos : Pos} (a e it : Addr) :
    Turn P w K (.Tuple elts kk tpos) (ItT K a) [e, it] e (fun i h => (∃ old, IsEnum h e it ((i : Nat) : Int) old) ∧ h.IsTupleIter it a i ∧ e ≠ it) where
  mem := by simp
  obj := fun i h st b hb => by
    obtain ⟨⟨old, he⟩, ⟨o, ho, hc, hd⟩, _⟩ := st
    have e' : b = e ∨ b = it := by simpa using hb
    rcases e' with z | z
    · rw [z]; exact ⟨_, he, fun v q => nomatch q⟩
    · rw [z]; exact ⟨o, ho, fun v q => by rw [hd] at q; cases q⟩
  keep := fun i h h' st k => let ⟨⟨old, he⟩, hi, hne⟩ := st; ⟨⟨old, k e (by simp) _ he⟩, hi.at fun o q => k it (by simp) o q, hne⟩
  item := by
    intro X hP hw hK hc i pins s σ H E I hf st hg
    subst hP hw hK
    obtain ⟨⟨old, he⟩, hit, hne⟩ := st
    obtain ⟨xs, x, hq, hx⟩ := hg
    obtain ⟨its, rv, p, hz⟩ := I.tuple hq
    obtain ⟨u, hu, ru⟩ := rv.get hx
    have hel : e < s.heap.objs.size := Heap.lt_size he
    have hil : it < s.heap.objs.size := by obtain ⟨_, q, _⟩ := hit; exact Heap.lt_size q
    have p' : s.heap.IsTuple a its.toArray := p
    obtain ⟨hai, hea⟩ := tuple_ne p' hit he
    have hui : its.toArray[i]? = some u := by simpa using hu
    have hlt : i < its.toArray.size := (Array.getElem?_eq_some_iff.mp hui).1
    have D := Draws.tuple (prog := X.prog) (w := X.w) (A := X.A.in1) (show X.A.in1.handled = none from I.ok.hd hc) it a hai its.toArray
    refine wpAny_pyNext_enum_itemD D he ⟨hit, p'⟩ hlt hne (by simp [hne, hea]) fun u' h' tk hP ho hit' hT hsz hk => ?_
    have huu : u' = u := by rw [hui] at hP; exact (Option.some.inj hP).symm
    subst huu
    refine ⟨_, rfl, wpAny_letOwnedTupleGo_enum (s := { s with heap := h', toks := tk + 1 }) ho fun h'' he' sb => ?_⟩
    have hT2 : h''.get? s.heap.objs.size = some { cls := .type "tuple", data := .seq #[.int i tk, u'] } := (sb.2 _ (Nat.ne_of_gt hel)).trans hT
    have new : ObjOk X.prog X.w (upd H s.heap.objs.size (.tup [.int (i : Nat), x])) h'' s.heap.objs.size (.tup [.int (i : Nat), x]) :=
      ⟨by show 2 ≤ sizeLine; decide, [.int i tk, u'], .cons ⟨_, rfl⟩ (.cons ru .nil), ⟨_, hT2, rfl, _, rfl⟩⟩
    have I1 : Inv X pins σ (upd H s.heap.objs.size (.tup [.int (i : Nat), x])) { s with heap := h'', toks := tk + 1 } :=
      I.turnedNew (ch := [e, it]) (fun b ob hb q => (sb.2 b (fun z => hb (by simp [z]))).trans (hk b ob (fun z => hb (by simp [z])) (fun z => hb (by simp [z])) q)) hf (Nat.le_refl _) new
    refine ⟨.ref s.heap.objs.size, _, I1, rfl, ⟨_, x, rfl, I.hok.fresh (Nat.le_refl _), rfl, fun ys hy => by rw [I.tuple_inj hy hq]; exact hx⟩, ⟨⟨u', ?_⟩, hit'.1.at fun o q => (sb.2 it (Ne.symm hne)).trans q, hne⟩, fun b hb => ?_⟩
    · have e1 : ((i + 1 : Nat) : Int) = (i : Int) + 1 := by omega
      rw [e1]; exact he'
    · have hb' : b < s.heap.objs.size := by
        have e' : b = e ∨ b = it := by simpa using hb
        rcases e' with z | z
        · rw [z]; exact hel
        · rw [z]; exact hil
      rw [upd_ne (Nat.ne_of_lt hb')]
      exact (hf b hb).1
  done := by
    intro X hP hw hK hc i pins s σ H E I hf st hg
    subst hP hw hK
    obtain ⟨⟨old, he⟩, hit, hne⟩ := st
    obtain ⟨xs, hq, hx⟩ := hg
    obtain ⟨its, rv, p, hz⟩ := I.tuple hq
    obtain ⟨f0, f1, f2, f3, f4, f5⟩ := hf it (by simp)
    have hl := rv.length
    have p' : s.heap.IsTuple a its.toArray := p
    obtain ⟨hai, hea⟩ := tuple_ne p' hit he
    -- the end: through the iterator itself
    have hTy : s.TypeIs (.ref e) "enumerate" := ⟨_, he, rfl⟩
    unfold pyNext
    refine wpAny_bind (wpAny_attempt (wpAny_callSpecial?_slot (name := Str.ofString "__next__") hTy F.slot_enumerate_next
      (wpAny_call_entry F.slot_enumerate_next hTy F.entry_enumerate_next ?_ (F.args_enumerate_next_1 _))))
    show wpAny _ _ (field (.ref e) 2 >>= _) _ _ _
    refine wpAny_bind (wpAny_field he rfl (x := .ref it) rfl ?_)
    refine wpAny_bind (wpAny_nextOf_tuple_end (I.ok.hd hc) hit p' (by simp; omega) fun h' x he' hx' => ?_)
    obtain ⟨o, ho, hc2⟩ := hx'
    refine wpAny_bind (wpAny_isInstance (T := "StopIteration") (b := true) ⟨o, ho, hc2⟩ isSubtype_stop ?_)
    exact wpAny_pure ⟨rfl, I.turned (t' := s.toks) (fun b o hb q => he' b o hb q) f0 f1 f3 f4 f5⟩
  self := fun A i s Q E st h => let ⟨⟨_, he⟩, _⟩ := st; wpAny_pyIter_enum he h
def iEnumA (K : PySem.W.Frag) (ta : TA) : TI := fun σ H R => ta σ H fun vs H1 => ∃ a xs, vs = [.ref a] ∧ ((SqL K H1 a xs ∧ R (Ite K a) H1) ∨ (SqT K H1 a xs ∧ R (ItT K a) H1))
theorem pi_enumA {X : Cx} {e : Expr} {ta : TA} {p pos tpos : Pos} {elts : List Expr} {kk : Nat} (hg : Gl X "enumerate") (hm : X.mg "enumerate" = none) (ha : PA X [e] ta) (hs : starEach [e] X.env = [(false, eval e X.env)] := by rfl) :
    PI X (.Tuple elts kk tpos) (.Call (.Name "enumerate" p) [e] [] pos) (iEnumA X.K ta) := by
  refine ⟨fun pins s σ H R I h => ?_⟩
  refine Call_ (ld_blt I hg hm boot_enumerate (PyProof.Rows.callWith_type1 (thn (ha.run pos pins s σ H _ I h) fun us s1 ⟨vs, H1, I1, r1, q1⟩ => ?_) hs rfl))
  obtain ⟨a, xs, ex, hq⟩ := q1
  subst ex
  cases r1 with
  | cons r rr =>
    cases rr
    cases r
    have hle : ∀ b, b = s1.heap.objs.size + 1 ∨ b = s1.heap.objs.size → s1.heap.objs.size ≤ b := fun b e' => by
      rcases e' with z | z
      · rw [z]; exact Nat.le_add_right _ _
      · rw [z]; exact Nat.le_refl _
    rcases hq with ⟨hq, q⟩ | ⟨hq, q⟩
    · obtain ⟨its, rv, p', hz⟩ := I1.list hq
      refine call_enumerate_list p'.isList fun h' he hit hsz hk => wpAny_pyIter_enum he ?_
      have I2 : Inv X pins σ H1 { s1 with heap := h' } := I1.kept (t' := s1.toks) hk
      refine ⟨s1.heap.objs.size + 1, [s1.heap.objs.size + 1, s1.heap.objs.size], _, _, H1, rfl, I2, turn_enum a (s1.heap.objs.size + 1) s1.heap.objs.size, ⟨⟨.none, he⟩, hit, Nat.succ_ne_self _⟩, fun b hb => ?_, q⟩
      have hle := hle b (by simpa using hb)
      exact I1.fpOk hle (I1.hok.fresh hle)
    · obtain ⟨its, rv, p', hz⟩ := I1.tuple hq
      refine call_enumT (show s1.heap.IsTuple a its.toArray from p') fun h' he hit hsz hk => wpAny_pyIter_enum he ?_
      have I2 : Inv X pins σ H1 { s1 with heap := h' } := I1.kept (t' := s1.toks) hk
      refine ⟨s1.heap.objs.size + 1, [s1.heap.objs.size + 1, s1.heap.objs.size], _, _, H1, rfl, I2, turn_enumT a (s1.heap.objs.size + 1) s1.heap.objs.size, ⟨⟨.none, he⟩, hit, Nat.succ_ne_self _⟩, fun b hb => ?_, q⟩
      have hle := hle b (by simpa using hb)
      exact I1.fpOk hle (I1.hok.fresh hle)
theorem walk_enumT {K : PySem.W.Frag} {G : Hp} {a : Addr} {xs : List V} {ds : List D} (h : SqT K G a xs) (r : RpAll K G xs ds) : Walk K (ItT K a) G (enumFrom 0 ds) := by
  refine ⟨fun i d G2 H2 hd e1 e2 => ?_, fun i d x G2 H2 H3 hd e1 e2 hy => ?_, fun G2 H2 e1 e2 => ⟨xs, TD.Same.seqT (e1.trans e2) h, by rw [r.length, enumFrom_len]; exact Nat.le_refl _⟩⟩
  · obtain ⟨e, he, _⟩ := enumFrom_get ds 0 i d hd
    obtain ⟨v, hv, _⟩ := r.get he
    exact ⟨xs, v, TD.Same.seqT (e1.trans e2) h, hv⟩
  · obtain ⟨e, he, rfl⟩ := enumFrom_get ds 0 i d hd
    obtain ⟨T, y, rfl, hT, rfl, hy⟩ := hy
    obtain ⟨v, hv, rv⟩ := r.get he
    have := hy xs (TD.Same.seqT (e1.trans e2) h)
    rw [hv] at this
    cases this
    have ex := Ext.new (o := .tup [.int (i : Nat), y]) e2 hT
    rw [Nat.zero_add]
    exact ⟨_, ex, .tup (SqT.of upd_same) (.cons (.int _) (.one ((rv.up e1).up ex.gg)))⟩
def enuA (f : EnvS → R D) : EnvS → R (List D) := fun ρ => (f ρ).bind fun d => match d with
  | .list ds => .ok (enumFrom 0 ds)
  | .tuple ds => .ok (enumFrom 0 ds)
  | _ => .no
section
variable {X : Cx} {W : WX} {pos : Pos}
theorem i_enumA {a : Expr} {p tpos : Pos} {elts : List Expr} {kk : Nat} {f : EnvS → R D} (hm : X.mg "enumerate" = none) (ha : PD X W a f) (hg : Gl X "enumerate" := by rfl) (hs : starEach [a] X.env = (false, eval a X.env) :: starEach [] X.env := by rfl) : PID X W (.Tuple elts kk tpos) (.Call (.Name "enumerate" p) [a] [] pos) (enuA f) :=
  (pi_enumA hg hm (pa_cons ha pa_nil hs) hs).wk fun σ H Q ⟨G, ρ, hs, he, q⟩ => by
    unfold enuA at q
    refine seqP PostI.fin q hs he fun a v G1 H1 _ e1 r1 he1 q1 => ?_
    cases a with
    | list ds =>
      obtain ⟨a, xs, rfl, h1, g1, p1⟩ := r1.seqL e1.sub
      exact ⟨a, xs, rfl, .inl ⟨SqL.of h1, q1 _ G1 H1 (.refl e1.sub) (walk_enum g1 p1)⟩⟩
    | tuple ds =>
      obtain ⟨a, xs, rfl, h1, g1, p1⟩ := r1.seqT e1.sub
      exact ⟨a, xs, rfl, .inr ⟨h1, q1 _ G1 H1 (.refl e1.sub) (walk_enumT g1 p1)⟩⟩
    | _ => exact q1.elim
end
end TD

/-! TdSort: sorted of ints, of pairs of ints. -/
namespace TD
open PySem PySem.Spec PyProof.Rows L2
def rSortedPT (K : PySem.W.Frag) : List V → Hp → VK → Prop := fun vs H Q => ∃ (a : Addr) (xs : List V), vs = [V.ref a] ∧ SqL K H a xs ∧ (∀ x ∈ xs, ∃ (t : Addr) (z : Int × Int), x = V.ref t ∧ SqT K H t [.int z.1, .int z.2]) ∧
  ∀ (k : V → Int × Int) (ys : List V) (p : Addr), (∀ (t : Addr) (z : Int × Int), V.ref t ∈ xs → SqT K H t [.int z.1, .int z.2] → k (.ref t) = z) → SrtO.Srtd (ltP k) ys → ys.Perm xs → H p = none → Q (.ref p) (upd H p (.lst ys))
def intLe (a b : Int) : Bool := decide (a ≤ b)
def prLe (a b : Int × Int) : Bool := !SrtO.lexB b a
theorem prLe_iff {a b : Int × Int} : prLe a b = true ↔ a.1 < b.1 ∨ (a.1 = b.1 ∧ a.2 ≤ b.2) := by
  unfold prLe
  rw [Bool.not_eq_true', SrtO.lexB_no]
  omega
def pairOf : D → Option (Int × Int)
  | .tuple [.int a, .int b] => some (a, b)
  | _ => none
def pairsOf : List D → Option (List (Int × Int))
  | [] => some []
  | d :: r => match pairOf d, pairsOf r with
    | some p, some ps => some (p :: ps)
    | _, _ => none
def prD2 (p : Int × Int) : D := .tuple [.int p.1, .int p.2]
theorem pairOf_some {d : D} {p : Int × Int} (h : pairOf d = some p) : d = prD2 p := by
  unfold pairOf at h
  split at h
  · cases h; rfl
  · cases h
theorem pairsOf_some : ∀ {ds : List D} {ps : List (Int × Int)}, pairsOf ds = some ps → ds = ps.map prD2
  | [], _, h => by cases h; rfl
  | d :: r, ps, h => by
    unfold pairsOf at h
    split at h
    · rename_i p qs h1 h2
      cases h
      rw [List.map_cons, ← pairOf_some h1, ← pairsOf_some h2]
    · cases h
theorem pairsOf_map : ∀ ps : List (Int × Int), pairsOf (ps.map prD2) = some ps
  | [] => rfl
  | p :: ps => by
    rw [List.map_cons, pairsOf, pairsOf_map ps]
    rfl
def sortI (ns : List Int) : List Int := ns.mergeSort intLe
def sortP (ps : List (Int × Int)) : List (Int × Int) := ps.mergeSort prLe
theorem sortI_eq {ns ms : List Int} (h : ms.Perm ns) (hs : ms.Pairwise (· ≤ ·)) : ms = sortI ns := by
  have h1 : (sortI ns).Pairwise (· ≤ ·) := (List.pairwise_mergeSort (le := intLe) (fun a b c h1 h2 => by unfold intLe at *; simp only [decide_eq_true_eq] at *; omega) (fun a b => by unfold intLe; simp only [Bool.or_eq_true, decide_eq_true_eq]; omega) ns).imp fun h => of_decide_eq_true h
  exact List.Perm.eq_of_pairwise (le := (· ≤ ·)) (fun a b _ _ h1 h2 => Int.le_antisymm h1 h2) hs h1 (h.trans (List.mergeSort_perm ns intLe).symm)
theorem sortP_sorted (ps : List (Int × Int)) : (sortP ps).Pairwise fun a b => prLe a b = true :=
  List.pairwise_mergeSort (fun a b c h1 h2 => by rw [prLe_iff] at *; omega) (fun a b => by rw [Bool.or_eq_true, prLe_iff, prLe_iff]; omega) ps
theorem sortP_eq {ps qs : List (Int × Int)} (h : qs.Perm ps) (hs : qs.Pairwise fun a b => prLe a b = true) : qs = sortP ps :=
  List.Perm.eq_of_pairwise (le := fun a b => prLe a b = true) (fun a b _ _ h1 h2 => by rw [prLe_iff] at h1 h2; exact Prod.ext (by omega) (by omega)) hs (sortP_sorted ps) (h.trans (List.mergeSort_perm ps prLe).symm)
def sortK : List D → R (List D) := fun ds => match intsOf ds with
  | some ns => .ok ((sortI ns).map .int)
  | none => match pairsOf ds with
    | some ps => .ok ((sortP ps).map prD2)
    | none => .no
section
variable {X : Cx}
open Classical in
theorem cr_sortedPT : CallR X (.builtin "sorted") (rSortedPT X.K) := by
  intro pins s σ H vs us Q I r h
  obtain ⟨a, xs, rfl, hs, hx, q⟩ := h
  obtain ⟨its, rv, hl, hz⟩ := I.list hs
  obtain ⟨u, rfl, ru⟩ := vals1 r
  obtain rfl : u = Value.ref a := ru
  let k : V → Int × Int := fun x => if h : ∃ z : Int × Int, ∃ t, x = V.ref t ∧ SqT X.K H t [.int z.1, .int z.2] then Classical.choose h else (0, 0)
  have hk : ∀ (t : Addr) (z : Int × Int), SqT X.K H t [.int z.1, .int z.2] → k (.ref t) = z := fun t z ht => by
    have ex : ∃ z : Int × Int, ∃ t', V.ref t = V.ref t' ∧ SqT X.K H t' [.int z.1, .int z.2] := ⟨z, t, rfl, ht⟩
    have e : k (.ref t) = Classical.choose ex := dif_pos ex
    obtain ⟨t', e1, e2⟩ := Classical.choose_spec ex
    cases e1
    have e3 := I.tuple_inj e2 ht
    rw [e]
    injection e3 with e4 e5
    injection e5 with e6 _
    injection e4 with e4
    injection e6 with e6
    exact Prod.ext e4 e6
  obtain ⟨e1, e2⟩ := refs_back rv fun x m => by
    obtain ⟨t, _, e, _⟩ := hx x m
    exact ⟨t, e⟩
  refine SrtO.sorted_pairsO (k := fun u => k (backV u)) hl.isList (by rw [← rv.length]; exact hz) (fun v hv => ?_) fun h' d out h1 h2 kp hd hn => ?_
  · obtain ⟨t, rfl⟩ := e2 v hv
    have hm : V.ref t ∈ xs := by rw [e1]; exact List.mem_map.mpr ⟨_, hv, rfl⟩
    obtain ⟨t', z, e, ht⟩ := hx _ hm
    cases e
    obtain ⟨its2, r2, ⟨o, ho, hc, n, hd⟩, _⟩ := I.tuple ht
    obtain ⟨u1, u2, rfl, ri, rj⟩ := vals2 r2
    obtain ⟨t1, rfl⟩ := ri
    obtain ⟨t2, rfl⟩ := rj
    have ek : k (backV (.ref t)) = z := hk t z ht
    rw [ek]
    exact ⟨t, o, t1, t2, n, rfl, ho, hc, hd⟩
  · have h3 : ∀ u ∈ out, ∃ a, u = Value.ref a := fun u hu => e2 u (h2.perm.mem_iff.mp hu)
    obtain ⟨n, hn⟩ := hn
    have hb : (out.map backV).Perm xs := by rw [e1]; exact h2.perm.map backV
    refine ⟨.ref d, upd H d (.lst (out.map backV)), I.laid (t' := s.toks) kp hd ⟨?_, out, n, vals_back h3, hn⟩, rfl, q k _ d (fun t z _ ht => hk t z ht) (SrtO.srtd_map h1) hb (I.hok.fresh hd)⟩
    rw [hb.length_eq]
    exact hz
theorem cr_sortD : CallR X (.builtin "sorted") (fun xs H Q => rSortedI X.K xs H Q ∨ rSortedPT X.K xs H Q) := cr_sortedI.or cr_sortedPT
theorem RpAll.ofPairs {K : PySem.W.Frag} {G : Hp} : ∀ {xs : List V} {ps : List (Int × Int)}, RpAll K G xs (ps.map prD2) → ∀ x ∈ xs, ∃ (t : Addr) (z : Int × Int), x = V.ref t ∧ SqT K G t [.int z.1, .int z.2]
  | _, [], .nil, x, h => absurd h List.not_mem_nil
  | _, p :: ps, .cons a r, x, h => by
    rcases List.mem_cons.mp h with e | h
    · subst e
      obtain ⟨t, xs, rfl, _, h2, r2⟩ := Rp.seqT a (.refl G)
      cases r2 with
      | cons r3 r4 => cases r4 with
        | cons r5 r6 => cases r6; cases r3; cases r5; exact ⟨t, p, rfl, h2⟩
    · exact RpAll.ofPairs r x h
theorem RpAll.keys {K : PySem.W.Frag} {G : Hp} {k : V → Int × Int} : ∀ {xs : List V} {ps : List (Int × Int)}, RpAll K G xs (ps.map prD2) → (∀ (t : Addr) (z : Int × Int), V.ref t ∈ xs → SqT K G t [.int z.1, .int z.2] → k (.ref t) = z) → xs.map k = ps
  | _, [], .nil, _ => rfl
  | _, p :: ps, .cons a r, hk => by
    obtain ⟨t, xs, rfl, _, h2, r2⟩ := Rp.seqT a (.refl G)
    rw [List.map_cons, RpAll.keys r fun t z hm => hk t z (List.mem_cons_of_mem _ hm)]
    cases r2 with
    | cons r3 r4 => cases r4 with
      | cons r5 r6 => cases r6; cases r3; cases r5; rw [hk t p List.mem_cons_self h2]
theorem RpAll.fromKeys {K : PySem.W.Frag} {G : Hp} {k : V → Int × Int} : ∀ {ys : List V}, (∀ x ∈ ys, ∃ t, x = V.ref t ∧ SqT K G t [.int (k x).1, .int (k x).2]) → RpAll K G ys ((ys.map k).map prD2)
  | [], _ => .nil
  | y :: ys, h => by
    obtain ⟨t, rfl, ht⟩ := h y List.mem_cons_self
    exact .cons (.tup ht (.cons (.int _) (.one (.int _)))) (RpAll.fromKeys fun x hx => h x (List.mem_cons_of_mem _ hx))
theorem ln_sort : LstN X (fun xs H Q => rSortedI X.K xs H Q ∨ rSortedPT X.K xs H Q) sortK := by
  intro ds a xs G H Wx Q hs h r q
  unfold sortK at q
  split at q
  · rename_i ns e
    rw [intsOf_some e] at r
    refine .inl ⟨a, ns, rfl, ?_, fun ns' p hp hsd hf => ?_⟩
    · rw [← RpAll.of_ints r]
      exact SqL.of h
    · rw [sortI_eq hp hsd]
      exact q p _ G _ (Ext.newH hs hf) hf (hs.free hf) upd_same (RpAll.ints _)
  · split at q
    · rename_i ps e
      rw [pairsOf_some e] at r
      refine .inr ⟨a, xs, rfl, SqL.of h, fun x hx => ?_, fun k ys p hk hsd hp hf => ?_⟩
      · obtain ⟨t, z, rfl, ht⟩ := RpAll.ofPairs r x hx
        exact ⟨t, z, rfl, TD.Same.seqT hs ht⟩
      · have hk' : ∀ (t : Addr) (z : Int × Int), V.ref t ∈ xs → SqT X.K G t [.int z.1, .int z.2] → k (.ref t) = z := fun t z hm ht => hk t z hm (TD.Same.seqT hs ht)
        have e1 : xs.map k = ps := RpAll.keys r hk'
        have e2 : ys.map k = sortP ps := sortP_eq (by rw [← e1]; exact hp.map k) (List.pairwise_map.mpr (hsd.imp fun {x y} h => by
          show (!SrtO.lexB (k y) (k x)) = true
          rw [show SrtO.lexB (k y) (k x) = false from h]; rfl))
        have e3 : RpAll X.K G ys ((ys.map k).map prD2) := RpAll.fromKeys fun x hx => by
          have hx' := hp.mem_iff.mp hx
          obtain ⟨t, z, rfl, ht⟩ := RpAll.ofPairs r x hx'
          exact ⟨t, rfl, by rw [hk' t z hx' ht]; exact ht⟩
        rw [e2] at e3
        exact q p _ G _ (Ext.newH hs hf) hf (hs.free hf) upd_same e3
    · exact q.elim
end
end TD

/-! TdPt: tuples known to be plain; t.index(x). -/
namespace TD
open PySem PySem.Spec PyProof.Rows L2
/-- tuple(x) of a list: a new tuple, frozen -/
def rTupF (K : PySem.W.Frag) : List V → Hp → VK → Prop := fun vs H Q => ∃ (p : Addr) (xs : List V), vs = [.ref p] ∧ SqL K H p xs ∧ ∀ (q : Addr) (o : Obj), H q = none → o.cls = .type "tuple" → o.dict = none → Q (.ref q) (upd H q (.frz o (.tup xs)))
section
variable {X : Cx} {W : WX} {pos : Pos}
theorem cr_tupF : CallR X (.type "tuple") (rTupF X.K) := by
  intro pins s σ H vs us Q I r h
  obtain ⟨p, xs, rfl, hs, q⟩ := h
  obtain ⟨u, rfl, ru⟩ := vals1 r
  obtain rfl : u = Value.ref p := ru
  obtain ⟨its, rv, pl, hz⟩ := I.list hs
  refine call_tuple_list pl.isList (fun h' hk => ?_) (by rw [List.size_toArray, ← rv.length]; exact hz)
  have I1 : Inv X pins σ H { s with heap := h' } := I.kept (t' := s.toks) hk
  have I2 : Inv X pins σ (upd H h'.objs.size (.frz { cls := .type "tuple", data := .seq its.toArray } (.tup xs))) { s with heap := h'.push { cls := .type "tuple", data := .seq its.toArray } } :=
    I1.laid (t' := s.toks) (fun b o e => Heap.get?_push_of_some _ e) (Nat.le_refl _) (show ObjOk X.prog X.w _ _ _ (.frz _ (.tup xs)) from ⟨Heap.get?_push_size _ rfl, hz, its, rv, IsTup.new _ _⟩)
  exact ⟨.ref h'.objs.size, _, I2, rfl, q _ _ (I1.hok.fresh (Nat.le_refl _)) rfl rfl⟩
theorem ld_tupF : LstD X (rTupF X.K) (fun ds => .ok (ptD ds)) := by
  intro ds a xs G H Wx Q hs h r q
  refine ⟨a, xs, rfl, SqL.of h, fun l o hl hc hd => ?_⟩
  have e := Ext.new (o := .frz o (.tup xs)) hs hl
  exact q _ _ _ e (.plt upd_same hc hd (r.up e.gg))
def ptK : List D → R D := fun ds => match ds with
  | [.list xs] => .ok (ptD xs)
  | _ => .no
theorem cd_tupF : CallD X (rTupF X.K) ptK := by
  intro ds xs G H Wx Q hs rr q
  unfold ptK at q
  split at q
  · obtain ⟨v, rfl, r⟩ := rr.inv1
    obtain ⟨a, ys, rfl, h1, g1, p1⟩ := r.seqL hs
    refine ⟨a, ys, rfl, SqL.of h1, fun l o hl hc hd => ?_⟩
    have e := Ext.new (o := .frz o (.tup ys)) hs hl
    exact q _ _ _ e (.plt upd_same hc hd (p1.up e.gg))
  · exact q.elim
def dropK : D → R D
  | .dict [(.int 0, .tuple ds)] => .ok (.tuple ds)
  | _ => .no
theorem d_drop {e : Expr} {f : EnvS → R D} (h : PD X W e f) : PD X W e (un1 dropK f) := h.wk fun σ H Q ⟨G, ρ, hs, he, q⟩ => by
  unfold un1 at q
  refine Post.seq q hs he fun d v G1 H1 _ e1 r1 he1 q1 => ?_
  unfold dropK at q1
  split at q1
  · rename_i ds
    obtain ⟨a, o, xs, rfl, h1, h2, h3, h4⟩ := pt_inv r1
    exact q1.done e1.sub (.tup (.inl (.inr ⟨o, h1⟩)) h4)
  · exact q1.elim
def rTIdx (K : PySem.W.Frag) : V → List V → Hp → VK → Prop := fun x ys H Q => ∃ (a : Addr) (y : V) (d : PyData) (ds : List PyData) (j : Nat) (z : PyData), x = V.ref a ∧ ys = [y] ∧ Dp K H (V.ref a) (.tuple ds) ∧ Dp K H y d ∧
  SeqAt.shaped (.tuple ds) = true ∧ SeqAt.shaped d = true ∧ ds[j]? = some z ∧ PyData.eqv z d = true ∧ (∀ (m : Nat) (z' : PyData), m < j → ds[m]? = some z' → PyData.eqv z' d = false) ∧ Q (.int (j : Nat)) H
theorem mt_tidx (hu : X.A.units + 65 < cLine) : MtR X "tuple.index" (rTIdx X.K) := by
  intro pins s σ H x xs v us Q I rx rxs h
  obtain ⟨a, y, d, ds, j, z, rfl, rfl, hl, hy, sl, sd, hz, hzj, hno, q⟩ := h
  cases rx
  cases rxs with
  | cons ry rt =>
    rename_i uy ut
    cases rt
    obtain ⟨bs, r1⟩ := Dp.reads I d y uy hy ry
    have hxs : PyData.canLayAll0 ds = true := SeqAt.canLay_of_shaped sl
    have hroom : X.A.units + 1 + min (PyData.depthAll ds) d.depth < cLine := room_in_shaped sd hu
    cases hl with
    | tup hs ha =>
      obtain ⟨its, rv, ⟨⟨cls, dd, data, sls⟩, ho, hc, n, hdt⟩, hlen⟩ := I.tuple hs
      simp only at hc hdt
      subst hc hdt
      obtain ⟨as, h4⟩ := Dp.readsAll I ds _ its ha rv
      have hn : its.length = ds.length := SeqAt.ReadsAll.length ds its as h4
      have hmap : its.map (SeqAt.readOf s.heap) = ds := SeqAt.readsAll_map ds its as hxs h4
      have hvl := rv.length
      have hsl := sizeLine_eq
      obtain ⟨hjd, _⟩ := List.getElem?_eq_some_iff.mp hz
      have hjl : j < its.length := by omega
      have hj : j < its.toArray.size := by simpa using hjl
      have at_ : ∀ (m : Nat) (hm : m < its.toArray.size) (z' : PyData), ds[m]? = some z' → SeqAt.readOf s.heap its.toArray[m] = z' := by
        intro m hm z' hz'
        have hml : m < its.length := by simpa using hm
        rw [← hmap, List.getElem?_map, List.getElem?_eq_getElem hml] at hz'
        have e1 : SeqAt.readOf s.heap its[m] = z' := Option.some.inj (show some (SeqAt.readOf s.heap its[m]) = some z' from hz')
        simpa using e1
      refine call_meets PySem.F.slot_tuple_index ⟨_, ho, rfl⟩ PySem.F.entry_tuple_index (PySem.F.args_tuple_index_2 _ _)
        (_root_.TI.tuple_indexAt a its.toArray n dd sls uy (fun u => PyData.eqv (SeqAt.readOf s.heap u) d) j hj ?_ ?_) ⟨ho, SeqAt.items_eqAt (vs := its.toArray) (show ReadsAll s.heap its.toArray.toList ds as from h4) r1 hxs (SeqAt.canLay_of_shaped sd) hroom, ?_⟩
      · show PyData.eqv (SeqAt.readOf s.heap its.toArray[j]) d = true
        rw [at_ j hj z hz]
        exact hzj
      · intro m hm hmj
        have hmd : m < ds.length := by omega
        have hz' : ds[m]? = some ds[m] := List.getElem?_eq_getElem hmd
        show PyData.eqv (SeqAt.readOf s.heap its.toArray[m]) d = false
        rw [at_ m hm _ hz']
        exact hno m _ hmj hz'
      · exact ⟨.int (j : Nat), H, I.tok _, ⟨_, rfl⟩, q⟩
def tTIdx (K : PySem.W.Frag) (to te : TE) : TE := fun σ H Q => to σ H fun x H1 => (∃ (a : Addr) (o : Obj) (xs : List V), x = .ref a ∧ H1 a = some (.frz o (.tup xs)) ∧ o.cls = .type "tuple" ∧ o.dict = none) ∧ te σ H1 fun y H2 => rTIdx K x [y] H2 Q
theorem pe_tidx {o e : Expr} {to te : TE} {apos cpos : Pos} (hu : X.A.units + 65 < cLine) (ho : PE X o to) (he : PE X e te) (hbase : attributeBase o "index" X.env (eval o X.env) = eval o X.env := by rfl)
    (hfew : ((backTo cpos (starEach [e] X.env)).all (fun x => !x.1) && (backToKw cpos (keywordEach [] X.env)).all (fun x => x.1.isSome)
      && decide (([e] : List Expr).length + ([] : List Keyword).length + (if ([] : List Keyword).isEmpty then 0 else 1) < 30)) = true := by rfl)
    (hline : (apos.endLine == cpos.line) = true := by rfl) (hs : starEach [e] X.env = (false, eval e X.env) :: starEach [] X.env := by rfl) (hplain : (backTo cpos (starEach [] X.env)).any (·.1) = false := by rfl) :
    PE X (.Call (.Attribute o "index" apos) [e] [] cpos) (tTIdx X.K to te) := by
  refine ⟨fun pins s σ H Q I h => ?_⟩
  refine wpAny_Call_method_late hbase hfew hline rfl (thn (ho.run pins s σ H _ I h) fun v s1 ⟨x, H1, I1, r1, ty, q1⟩ => ?_)
  obtain ⟨a, ob, xs, rfl, hH, hoc, hod⟩ := ty
  obtain rfl : v = Value.ref a := r1
  obtain ⟨hg, _⟩ := I1.hok _ _ hH
  refine ⟨"tuple", _, PySem.F.plainAttrs_tuple, PySem.F.slot_tuple_index, PySem.F.type_tuple_index, ⟨ob, hg, hoc⟩, fun b e => by cases e; exact ⟨ob, hg, hod⟩, ?_⟩
  rw [hs]
  refine Calls.callWith_builtin (by show (false || (backTo cpos (starEach [] X.env)).any (·.1)) = false; rw [hplain] <;> rfl) (Calls.evalArgs_plain ?_)
  show wpAny _ _ (spliced ((false, eval e X.env) :: backTo cpos (starEach [] X.env))) _ _ s1
  refine Calls.spliced_cons (thn (he.run pins s1 σ H1 _ I1 q1) fun u s2 ⟨y, H2, I2, ry, q2⟩ => ?_)
  refine Calls.spliced_nil ?_
  exact mt_tidx hu pins s2 σ H2 (.ref a) [y] (.ref a) [u] Q I2 rfl (.cons ry .nil) q2
def ptOf : D → Option (List D)
  | .dict [(.int 0, .tuple ds)] => some ds
  | _ => none
theorem ptOf_some {d : D} {ds : List D} (h : ptOf d = some ds) : d = ptD ds := by
  unfold ptOf at h
  split at h
  · cases h; rfl
  · cases h
@[simp] theorem ptOf_pt (ds : List D) : ptOf (ptD ds) = some ds := rfl
def tindexD (ds : List D) (d : D) : R D := if okD d && okD (.tuple ds) then (match firstEq ds d with
    | some j => .ok (.int (j : Nat))
    | none => .no) else .no
def tixF (f g : EnvS → R D) : EnvS → R D := fun ρ => (f ρ).bind fun d => match ptOf d with
  | some ds => (g ρ).bind (tindexD ds)
  | none => .no
theorem d_tindex {o e : Expr} {f g : EnvS → R D} {apos cpos : Pos} (hu : X.A.units + 65 < cLine) (ho : PD X W o f) (he : PD X W e g) (hbase : attributeBase o "index" X.env (eval o X.env) = eval o X.env := by rfl)
    (hfew : ((backTo cpos (starEach [e] X.env)).all (fun x => !x.1) && (backToKw cpos (keywordEach [] X.env)).all (fun x => x.1.isSome)
      && decide (([e] : List Expr).length + ([] : List Keyword).length + (if ([] : List Keyword).isEmpty then 0 else 1) < 30)) = true := by rfl)
    (hline : (apos.endLine == cpos.line) = true := by rfl) (hs : starEach [e] X.env = (false, eval e X.env) :: starEach [] X.env := by rfl) (hplain : (backTo cpos (starEach [] X.env)).any (·.1) = false := by rfl) :
    PD X W (.Call (.Attribute o "index" apos) [e] [] cpos) (tixF f g) := (pe_tidx hu ho he hbase hfew hline hs hplain).wk fun σ H Q ⟨G, ρ, hs, he, q⟩ => by
  unfold tixF at q
  refine Post.seq q hs he fun d v G1 H1 _ e1 r1 he1 q1 => ?_
  split at q1
  · rename_i ds hd
    have hd' := ptOf_some hd
    subst hd'
    obtain ⟨a, o, xs, rfl, h1, h2, h3, h4⟩ := pt_inv r1
    refine ⟨⟨a, o, xs, rfl, e1.sub _ _ h1, h2, h3⟩, ?_⟩
    refine Post.seq q1 e1.sub he1 fun b u G2 H2 _ e2 r2 he2 q2 => ?_
    unfold tindexD at q2
    split at q2
    · rename_i hk
      rw [Bool.and_eq_true] at hk
      split at q2
      · rename_i j hj
        obtain ⟨z, hz, hzj, hno⟩ := firstEq_some hj
        have ht : Rp X.K H2 (.ref a) (.tuple ds) := (Rp.tup (.inl (.inr ⟨o, h1⟩)) h4).up (e2.gg.trans e2.sub)
        exact ⟨a, u, b, ds, j, z, rfl, rfl, Rp.dp _ _ ht (okD_can hk.2), Rp.dp _ _ (r2.up e2.sub) (okD_can hk.1), hk.2, hk.1, hz, hzj, hno, q2.done e2.sub (.int _)⟩
      · exact q2.elim
    · exact q2.elim
  · exact q1.elim
end
end TD

/-! TdRet: a return whose expression is given one's own lists: they are settled first. -/
namespace TD
open PySem PySem.Spec PyProof.Rows L2
def rtF (f : EnvS → R D) : EnvS → Out := fun ρ => match f (toF ρ) with
  | .ok d => .rt d
  | _ => .no
section
variable {X : Cx} {W : WX} {pos : Pos}
theorem s_retF {e : Expr} {f : EnvS → R D} (h : PD X W e f) : PSD X W [] (.Return (some e) pos) (rtF f) := (ps_ret h).wk fun Dd σ H ⟨G0, H0, G, ρ, ok, q⟩ => by
  classical
  have he := ok.env
  have hs := ok.ext.sub
  let own : Addr → Prop := fun p => ∃ (i : Nat) (ds : List D), ρ[i]? = some (some (.ow ds)) ∧ σ[i]? = some (some (V.ref p))
  have ownH : ∀ p, own p → G p = none ∧ ∃ vs, H p = some (.lst vs) := fun p ⟨i, ds, h1, h2⟩ => by
    obtain ⟨p', vs, z1, z2, z3, _⟩ := he.ow i ds h1
    rw [h2] at z1
    cases z1
    exact ⟨z3, vs, z2⟩
  let GF : Hp := fun p => if own p then H p else G p
  have gfO : ∀ p, own p → GF p = H p := fun p h => if_pos h
  have gfN : ∀ p, ¬ own p → GF p = G p := fun p h => if_neg h
  have sF : Same G GF := fun b o hb => by
    by_cases z : own b
    · rw [(ownH b z).1] at hb; cases hb
    · rw [gfN b z]; exact hb
  have sH : Same GF H := fun b o hb => by
    by_cases z : own b
    · rw [gfO b z] at hb; exact hb
    · rw [gfN b z] at hb; exact hs b o hb
  have envF : EnvE X.K GF H σ (toF ρ) := by
    refine ⟨fun i d hi => ?_, fun i ds hi => ?_, by unfold toF; rw [List.length_map]; exact he.len⟩
    · unfold toF at hi
      rw [List.getElem?_map] at hi
      cases ei : ρ[i]? with
      | none => rw [ei] at hi; cases hi
      | some o =>
        rw [ei] at hi
        cases o with
        | none => cases hi
        | some s =>
          cases s with
          | pu d' =>
            cases hi
            obtain ⟨v, h1, h2⟩ := he.pu i d ei
            exact ⟨v, h1, h2.up sF⟩
          | ow ds =>
            cases hi
            obtain ⟨p, vs, h1, h2, h3, h4⟩ := he.ow i ds ei
            exact ⟨_, h1, .lst (by rw [gfO p ⟨i, ds, ei, h1⟩]; exact h2) (h4.up sF)⟩
    · unfold toF at hi
      rw [List.getElem?_map] at hi
      cases ei : ρ[i]? with
      | none => rw [ei] at hi; cases hi
      | some o =>
        rw [ei] at hi
        cases o with
        | none => cases hi
        | some s => cases s <;> cases hi
  have extF : Ext G0 H0 GF H := ⟨sH, ok.ext.hh, fun b o hb => sF b o (ok.ext.gg b o hb), fun p h1 h2 => by
    by_cases z : own p
    · obtain ⟨i, ds, h3, h4⟩ := z
      exact ok.own i ds p h3 h4
    · exact ok.ext.fr p h1 (by rw [← gfN p z]; exact h2)⟩
  refine ⟨GF, toF ρ, sH, envF, ?_⟩
  unfold rtF at q
  cases ef : f (toF ρ) with
  | ok d =>
    rw [ef] at q
    exact fun v G1 H1 e1 r1 => q v G1 H1 (extF.trans e1) r1
  | ex x => rw [ef] at q; exact q.elim
  | no => rw [ef] at q; exact q.elim
end
end TD

/-! TdPop: xs.pop() of one's own list. -/
namespace TD
open PySem PySem.Spec PyProof.Rows L2
section
variable {X : Cx} {W : WX}
def popO (i : Nat) : EnvS → Out := fun ρ => match ρ[i]? with
  | some (some (.ow ds)) => if ds.isEmpty then .no else .nx (ρ.set i (some (.ow ds.dropLast)))
  | _ => .no
theorem s_pop (i : Nat) {x : Str} {p apos cpos pos : Pos} (hN : X.N[i]? = some x := by rfl) (hv : Vis X.env.scope x := by first | exact Or.inl rfl | exact Or.inr (Or.inl rfl) | exact Or.inr (Or.inr rfl)) (hd : (x == ("__debug__" : Str)) = false := by decide)
    (hcd : (x == ("__classdict__" : Str)) = false := by decide)
    (hbase : attributeBase (.Name x p) "pop" X.env (eval (.Name x p) X.env) = eval (.Name x p) X.env := by rfl)
    (hline : (apos.endLine == cpos.line) = true := by rfl)
    (hsw : swapsWith (.Call (.Attribute (.Name x p) "pop" apos) [] [] cpos) none pos.line X.env = pure false := by rfl) :
    PSD X W [i] (.Expr (.Call (.Attribute (.Name x p) "pop" apos) [] [] cpos) pos) (popO i) :=
  (ps_expr (pe_bm0 PySem.F.plainAttrs_list PySem.F.slot_list_pop PySem.F.type_list_pop mt_pop (pe_var hN hv hd hcd) hbase hline) hsw).wk fun Dd σ H ⟨G0, H0, G, ρ, ok, q⟩ => by
    unfold popO at q
    split at q
    · rename_i ds hi
      obtain ⟨a, xs, h1, h2, n1, r1⟩ := ok.env.ow i ds hi
      split at q
      · exact q.elim
      · rename_i he
        have hne : ds ≠ [] := fun z => he (by rw [z]; rfl)
        have hl : xs.length - 1 < xs.length := by
          have := List.length_pos_iff.mpr hne
          rw [← r1.length] at this
          omega
        refine ⟨_, h1, .inl ⟨rfl, xs, SqL.of h2⟩, a, xs, xs[xs.length - 1], rfl, rfl, h2, List.getElem?_eq_getElem hl, ?_⟩
        exact q σ G _ (ok.mut hi h1 r1.dropLast) (.refl _) fun j hj => ⟨rfl, List.getElem?_set_ne (fun z => hj (by rw [z]; exact List.mem_singleton_self _))⟩
    · exact q.elim
def popS (i j : Nat) : EnvS → Out := fun ρ => match ρ[i]? with
  | some (some (.ow ds)) => match ds[ds.length - 1]? with
    | some d => .nx ((ρ.set i (some (.ow ds.dropLast))).set j (some (.pu d)))
    | none => .no
  | _ => .no
theorem s_popS (i j : Nat) {x y : Str} {p apos cpos pos py : Pos} (hij : j ≠ i) (hnd : X.N.Nodup) (hN : X.N[i]? = some x := by rfl) (hj : X.N[j]? = some y := by rfl) (hy : Loc X.env.scope y := by first | exact Or.inl rfl | exact Or.inr rfl) (hv : Vis X.env.scope x := by first | exact Or.inl rfl | exact Or.inr (Or.inl rfl) | exact Or.inr (Or.inr rfl)) (hd : (x == ("__debug__" : Str)) = false := by decide)
    (hcd : (x == ("__classdict__" : Str)) = false := by decide)
    (hbase : attributeBase (.Name x p) "pop" X.env (eval (.Name x p) X.env) = eval (.Name x p) X.env := by rfl)
    (hline : (apos.endLine == cpos.line) = true := by rfl)
    (hs : swapsWith (.Call (.Attribute (.Name x p) "pop" apos) [] [] cpos) (some (.Name y py)) pos.line X.env = pure false := by rfl)
    (hf : X.fn y = true ∨ X.env.scope.names.lookup y = some .local := by first | exact .inl rfl | exact .inr rfl) :
    PSD X W [i, j] (.Assign [.Name y py] (.Call (.Attribute (.Name x p) "pop" apos) [] [] cpos) pos) (popS i j) :=
  (ps_set hnd hj hy (pe_bm0 PySem.F.plainAttrs_list PySem.F.slot_list_pop PySem.F.type_list_pop mt_pop (pe_var hN hv hd hcd) hbase hline) hs hf).wk fun Dd σ H ⟨G0, H0, G, ρ, ok, q⟩ => by
    unfold popS at q
    split at q
    · rename_i ds hi
      obtain ⟨a, xs, h1, h2, n1, r1⟩ := ok.env.ow i ds hi
      split at q
      · rename_i d he
        obtain ⟨v, hv2, rv⟩ := r1.get he
        refine ⟨_, h1, .inl ⟨rfl, xs, SqL.of h2⟩, a, xs, v, rfl, rfl, h2, by rw [r1.length]; exact hv2, ?_⟩
        have ok2 := ok.mut hi h1 r1.dropLast
        exact q _ G _ (ok2.put rv j) (.refl _) fun k hk => by
          have hk1 : k ≠ i := fun z => hk (by rw [z]; exact List.mem_cons_self)
          have hk2 : k ≠ j := fun z => hk (by rw [z]; exact List.mem_cons_of_mem _ List.mem_cons_self)
          exact ⟨List.getElem?_set_ne (Ne.symm hk2), by rw [List.getElem?_set_ne (Ne.symm hk2), List.getElem?_set_ne (Ne.symm hk1)]⟩
      · exact q.elim
    · exact q.elim
def popU (i : Nat) (h : D → EnvS → R EnvS) : EnvS → Out := fun ρ => match ρ[i]? with
  | some (some (.ow ds)) => match ds[ds.length - 1]? with
    | some d => grd (h d (ρ.set i (some (.ow ds.dropLast))))
    | none => .no
  | _ => .no
theorem s_popU (i : Nat) {wr : List Nat} {tg : Expr} {h : D → EnvS → R EnvS} {x : Str} {p apos cpos pos : Pos} (hg : PGD X wr tg h) (hN : X.N[i]? = some x := by rfl) (hv : Vis X.env.scope x := by first | exact Or.inl rfl | exact Or.inr (Or.inl rfl) | exact Or.inr (Or.inr rfl)) (hd : (x == ("__debug__" : Str)) = false := by decide)
    (hcd : (x == ("__classdict__" : Str)) = false := by decide)
    (hbase : attributeBase (.Name x p) "pop" X.env (eval (.Name x p) X.env) = eval (.Name x p) X.env := by rfl)
    (hline : (apos.endLine == cpos.line) = true := by rfl)
    (hs : swapsWithSole [tg] (.Call (.Attribute (.Name x p) "pop" apos) [] [] cpos) pos.line X.env = pure false := by rfl) (hw : swappedStores [tg] (.Call (.Attribute (.Name x p) "pop" apos) [] [] cpos) X.env = pure none := by rfl)
    (h1 : (assignEach [tg] X.env).map (·.2) = [assign tg X.env] := by rfl) :
    PSD X W (i :: wr) (.Assign [tg] (.Call (.Attribute (.Name x p) "pop" apos) [] [] cpos) pos) (popU i h) :=
  (ps_asg (pe_bm0 PySem.F.plainAttrs_list PySem.F.slot_list_pop PySem.F.type_list_pop mt_pop (pe_var hN hv hd hcd) hbase hline) hg hs hw h1).wk fun Dd σ H ⟨G0, H0, G, ρ, ok, q⟩ => by
    unfold popU at q
    split at q
    · rename_i ds hi
      obtain ⟨a, xs, h1, h2, n1, r1⟩ := ok.env.ow i ds hi
      split at q
      · rename_i d he
        obtain ⟨v, hv2, rv⟩ := r1.get he
        refine ⟨_, h1, .inl ⟨rfl, xs, SqL.of h2⟩, a, xs, v, rfl, rfl, h2, by rw [r1.length]; exact hv2, ?_⟩
        have ok2 := ok.mut hi h1 r1.dropLast
        unfold grd at q
        cases e : h d (ρ.set i (some (.ow ds.dropLast))) with
        | ok ρ' =>
          rw [e] at q
          exact ⟨G, _, d, ok2.ext.sub, ok2.len, ok2.env, rv, ρ', e, fun σ' pt => q σ' G _ (ok2.puts pt) (.refl _) fun k hk => by
            have hk1 : k ≠ i := fun z => hk (by rw [z]; exact List.mem_cons_self)
            have := pt.fr k fun z => hk (List.mem_cons_of_mem _ z)
            exact ⟨this.1, by rw [this.2, List.getElem?_set_ne (Ne.symm hk1)]⟩⟩
        | ex x => rw [e] at q; exact q.elim
        | no => rw [e] at q; exact q.elim
      · exact q.elim
    · exact q.elim
/-- xs[::-1], a new list -/
def revL (f : EnvS → R (List D)) : EnvS → R (List D) := fun ρ => (f ρ).bind fun ds => .ok ds.reverse
theorem n_rev {e : Expr} {k : Nat} {p1 p2 p3 pos : Pos} {f : EnvS → R (List D)} (he : PDL X W e f) : PDN X W (.Subscript e (.Slice none none (some (.UnaryOp .USub (.Constant (.int 1) k p1) p2)) p3) pos) (revL f) :=
  (pe_revL he).wk fun σ H Q ⟨G, ρ, hs, he, q⟩ => by
    unfold revL at q
    refine seqL PostN.fin q hs he fun ds a xs G1 H1 _ e1 h1 r1 he1 q1 => ?_
    refine ⟨a, xs, rfl, SqL.of h1, fun p hp => ?_⟩
    exact q1 p _ G1 _ (Ext.newH e1.sub hp) hp (e1.sub.free hp) upd_same r1.reverse
end
end TD

/-! TdRec: defs that call themselves (a contract by steps), a list unpacked, t * n of a tuple. -/
namespace TD
open PySem PySem.Spec PyProof.Rows L2
section
variable {P : Program} {w : World} {K : PySem.W.Frag} {mg : Str → Option Value} {base : Heap}
theorem fn_none {k : Nat} {f : Addr} {fd : FuncData} {ps : List Str} : FnD P w K mg base k f fd ps (fun _ => .no) :=
  ⟨fun _ _ _ _ ⟨_, _, _, _, _, q⟩ => q.elim, fun _ _ _ _ _ _ _ _ _ _ _ _ _ ⟨_, _, _, _, _, q⟩ => q.elim⟩
end
section
variable {X : Cx} {W : WX} {pos : Pos} {wr : List Nat}
def unlG (n : Nat) (k : List D → EnvS → R EnvS) : D → EnvS → R EnvS := fun d ρ => match d with
  | .list ds => if ds.length = n then k ds ρ else .no
  | _ => .no
theorem g_unl (n : Nat) {es : List Expr} {k : Nat} {g : List D → EnvS → R EnvS} (h : PGsD X wr es g) (hc : X.calm = true := by rfl)
    (hn : (assignEach es X.env).length = n := by rfl) (hst : (assignEach es X.env).findIdx? (·.1) = none := by rfl) : PGD X wr (.Tuple es k pos) (unlG n g) := (pg_unl hc h hn hst).wk fun v σ H Q ⟨G, ρ, d, hs, hl, he, r, ρ', e, q⟩ => by
  unfold unlG at e
  cases d with
  | list ds =>
    dsimp only at e
    split at e
    · rename_i hn
      obtain ⟨a, xs, rfl, h1, g1, p1⟩ := r.seqL hs
      exact ⟨a, xs, rfl, SqL.of h1, by rw [p1.length]; exact hn, G, ρ, ds, hs, hl, he, p1, ρ', e, q⟩
    · cases e
  | _ => cases e
def repTD : D → D → R D
  | .tuple ds, .int k => if decide (ds ≠ [] ∧ 2 ≤ k ∧ k ≤ 1000 ∧ ds.length ≤ 1000) then .ok (.tuple (List.replicate k.toNat ds).flatten) else .no
  | _, _ => .no
theorem od_repT : OpD X (rRepT X.K) repTD := by
  intro a b x y G H Wx Q hs ra rb q
  unfold repTD at q
  split at q
  · rename_i ds k
    split at q
    · rename_i h
      have h := of_decide_eq_true h
      obtain ⟨l, xs, rfl, h1, g1, p1⟩ := ra.seqT hs
      cases rb
      refine ⟨l, k, xs, rfl, rfl, h1, fun z => ?_, h.2.1, h.2.2.1, by rw [p1.length]; exact h.2.2.2, fun p hp => ?_⟩
      · subst z; cases p1; exact h.1 rfl
      · have e := Ext.new (o := .tup (List.replicate k.toNat xs).flatten) hs hp
        exact q _ _ _ e (.tup (SqT.of upd_same) ((p1.rep k.toNat).up e.gg))
    · exact q.elim
  · exact q.elim
/-- if (a if c else b): -/
def ifB (c f g : EnvS → R Bool) : EnvS → R Bool := fun ρ => (c ρ).bind fun b => if b = true then f ρ else g ρ
theorem dt_if {c a b : Expr} {t f g : EnvS → R Bool} (hc : PTD X W c t) (ha : PTD X W a f) (hb : PTD X W b g) : PTD X W (.IfExp c a b pos) (ifB t f g) := by
  refine ⟨fun pins s σ H Q I ⟨G, ρ, hs, he, q⟩ => isTrue_IfExp ?_⟩
  refine thn (hc.run pins s σ H (fun v H1 => if v = true then tD X.K X.mg W rpB f σ H1 Q else tD X.K X.mg W rpB g σ H1 Q) I (Post.seq q hs he fun a v G1 H1 _ e1 r1 he1 q1 => ?_)) fun d s1 ⟨H1, I1, q1⟩ => ?_
  · cases r1
    cases a with
    | true => exact ⟨G1, ρ, e1.sub, he1, q1⟩
    | false => exact ⟨G1, ρ, e1.sub, he1, q1⟩
  · cases d with
    | true => exact ha.run pins s1 σ H1 Q I1 q1
    | false => exact hb.run pins s1 σ H1 Q I1 q1
def ifBK (r : R Bool) (f g : EnvS → R Bool) (ρ : EnvS) : R Bool := r.bind fun b => if b = true then f ρ else g ρ
@[simp] theorem ifB_ap {c f g : EnvS → R Bool} {ρ : EnvS} : ifB c f g ρ = ifBK (c ρ) f g ρ := rfl
@[simp] theorem ifBK_t {f g : EnvS → R Bool} {ρ : EnvS} : ifBK (.ok true) f g ρ = f ρ := rfl
@[simp] theorem ifBK_f {f g : EnvS → R Bool} {ρ : EnvS} : ifBK (.ok false) f g ρ = g ρ := rfl
/-- a comprehension within another one -/
def relabS (s0 sc : Scope) : Scope := { s0 with names := s0.names.map fun (n, k) => if (k == .free && sc.kind == .function && sc.names.lookup n == some .cell) then (n, .cell) else (n, k) }
theorem blkOk_nest {N : List Str} {s0 sc scope : Scope} {own : List (Str × Nat)} {cl : List (Str × Addr)} {C : Addr} {e : Env} (h : blkC N (relabS s0 sc) scope own = true) (hsc : e.scope = sc := by rfl) : BlkOk N (compEnvC s0 cl C e).scope scope own := by
  subst hsc
  exact blkOk_by h
end
end TD

/-! TdLook: an object with the fields boxes, box, hits, count, whose method look goes down a tree; read when it is done. -/
namespace TD
open PySem PySem.Spec PyProof.Rows L2
section
variable {X : Cx} {W : WX} {pos : Pos}
/-! ### an object that is read -/
def lkH : D → R D
  | .dict [(.bool true, .tuple [.list hs, .int _])] => .ok (.list hs)
  | _ => .no
def lkC : D → R D
  | .dict [(.bool true, .tuple [.list _, .int n])] => .ok (.int n)
  | _ => .no
@[simp] theorem lkH_ok {hs : List D} {n : Int} : lkH (lkD hs n) = .ok (.list hs) := rfl
@[simp] theorem lkC_ok {hs : List D} {n : Int} : lkC (lkD hs n) = .ok (.int n) := rfl
theorem d_fldH {e : Expr} {f : EnvS → R D} (h : PD X W e f) (hb : attributeBase e "hits" X.env (eval e X.env) = eval e X.env := by rfl) : PD X W (.Attribute e "hits" pos) (un1 lkH f) :=
  (pe_fld h hb).wk fun σ H Q ⟨G, ρ, hs, he, q⟩ => Post.seq q hs he fun a v G1 H1 _ e1 r1 he1 q1 => by
    unfold lkH at q1
    split at q1
    · obtain ⟨a, C, dx, hh, fs, vs, rfl, h1, h2, h3, h4, h5, h6, h7, h8⟩ := lk_inv (hs := _) (n := _) r1
      exact ⟨a, C, dx, fs, .ref hh, rfl, e1.sub _ _ h1, h2, h3, h5, Post.done q1 e1.sub (.lst h7 h8)⟩
    · exact q1.elim
theorem d_fldC {e : Expr} {f : EnvS → R D} (h : PD X W e f) (hb : attributeBase e "count" X.env (eval e X.env) = eval e X.env := by rfl) : PD X W (.Attribute e "count" pos) (un1 lkC f) :=
  (pe_fld h hb).wk fun σ H Q ⟨G, ρ, hs, he, q⟩ => Post.seq q hs he fun a v G1 H1 _ e1 r1 he1 q1 => by
    unfold lkC at q1
    split at q1
    · obtain ⟨a, C, dx, hh, fs, vs, rfl, h1, h2, h3, h4, h5, h6, h7, h8⟩ := lk_inv (hs := _) (n := _) r1
      exact ⟨a, C, dx, fs, .int _, rfl, e1.sub _ _ h1, h2, h4, h6, Post.done q1 e1.sub (.int _)⟩
    · exact q1.elim
end
/-! ### the object that is made -/
theorem kk1 : ¬ (("boxes" : Str) = "box") := by decide +kernel
theorem kk2 : ¬ (("boxes" : Str) = "hits") := by decide +kernel
theorem kk3 : ¬ (("boxes" : Str) = "count") := by decide +kernel
theorem kk4 : ¬ (("box" : Str) = "hits") := by decide +kernel
theorem kk5 : ¬ (("box" : Str) = "count") := by decide +kernel
theorem kk6 : ¬ (("hits" : Str) = "count") := by decide +kernel
def lkF (b c : V) (h : Addr) (n : Int) : List (Str × V) := putF "count" (.int n) (putF "hits" (.ref h) (putF "box" c (putF "boxes" b [])))
theorem lkF_eq (b c : V) (h : Addr) (n : Int) : lkF b c h n = ([("boxes", b), ("box", c), ("hits", V.ref h), ("count", V.int n)] : List (Str × V)) := by
  have e1 : putF ("box" : Str) c (putF ("boxes" : Str) b []) = ([("boxes", b), ("box", c)] : List (Str × V)) := by
    show (if ("boxes" : Str) = "box" then [(("boxes" : Str), c)] else (("boxes" : Str), b) :: putF ("box" : Str) c []) = _
    rw [if_neg kk1]; rfl
  have e2 : putF ("hits" : Str) (.ref h) ([("boxes", b), ("box", c)] : List (Str × V)) = ([("boxes", b), ("box", c), ("hits", V.ref h)] : List (Str × V)) := by
    show (if ("boxes" : Str) = "hits" then _ else (("boxes" : Str), b) :: (if ("box" : Str) = "hits" then _ else (("box" : Str), c) :: putF ("hits" : Str) (V.ref h) [])) = _
    rw [if_neg kk2, if_neg kk4]; rfl
  have e3 : putF ("count" : Str) (.int n) ([("boxes", b), ("box", c), ("hits", V.ref h)] : List (Str × V)) = ([("boxes", b), ("box", c), ("hits", V.ref h), ("count", V.int n)] : List (Str × V)) := by
    show (if ("boxes" : Str) = "count" then _ else (("boxes" : Str), b) :: (if ("box" : Str) = "count" then _ else (("box" : Str), c) :: (if ("hits" : Str) = "count" then _ else (("hits" : Str), V.ref h) :: putF ("count" : Str) (V.int n) []))) = _
    rw [if_neg kk3, if_neg kk5, if_neg kk6]; rfl
  unfold lkF
  rw [e1, e2, e3]
theorem lkF_put (b c : V) (h : Addr) (n m : Int) : putF "count" (.int m) (lkF b c h n) = lkF b c h m := by
  rw [lkF_eq, lkF_eq]
  show (if ("boxes" : Str) = "count" then _ else (("boxes" : Str), b) :: (if ("box" : Str) = "count" then _ else (("box" : Str), c) :: (if ("hits" : Str) = "count" then _ else (("hits" : Str), V.ref h) :: (if ("count" : Str) = "count" then [(("count" : Str), V.int m)] else _)))) = ([("boxes", b), ("box", c), ("hits", V.ref h), ("count", V.int m)] : List (Str × V))
  rw [if_neg kk3, if_neg kk5, if_neg kk6, if_pos rfl]
theorem lkF_boxes (b c : V) (h : Addr) (n : Int) : (lkF b c h n).lookup ("boxes" : Str) = some b := by
  unfold lkF
  rw [lookup_putF, if_neg kk3, lookup_putF, if_neg kk2, lookup_putF, if_neg kk1, lookup_putF, if_pos rfl]
theorem lkF_box (b c : V) (h : Addr) (n : Int) : (lkF b c h n).lookup ("box" : Str) = some c := by
  unfold lkF
  rw [lookup_putF, if_neg kk5, lookup_putF, if_neg kk4, lookup_putF, if_pos rfl]
theorem lkF_hits (b c : V) (h : Addr) (n : Int) : (lkF b c h n).lookup ("hits" : Str) = some (.ref h) := by
  unfold lkF
  rw [lookup_putF, if_neg kk6, lookup_putF, if_pos rfl]
theorem lkF_count (b c : V) (h : Addr) (n : Int) : (lkF b c h n).lookup ("count" : Str) = some (.int n) := by
  unfold lkF
  rw [lookup_putF, if_pos rfl]
theorem lkF_look (b c : V) (h : Addr) (n : Int) : (lkF b c h n).lookup ("look" : Str) = none := by
  have d1 : ¬ (("look" : Str) = "count") := by decide +kernel
  have d2 : ¬ (("look" : Str) = "hits") := by decide +kernel
  have d3 : ¬ (("look" : Str) = "box") := by decide +kernel
  have d4 : ¬ (("look" : Str) = "boxes") := by decide +kernel
  unfold lkF
  rw [lookup_putF, if_neg d1, lookup_putF, if_neg d2, lookup_putF, if_neg d3, lookup_putF, if_neg d4]
  rfl
/-- the facts of the class -/
structure LkC (K : PySem.W.Frag) (C fI fL : Addr) : Prop where
  cl : Cls K C
  mak : Mk K C fI
  me : Meth K C "look" fL
  n1 : NoAttr K C "boxes"
  n2 : NoAttr K C "box"
  n3 : NoAttr K C "hits"
  n4 : NoAttr K C "count"
/-! ### the promises -/
def spLkI (C : Addr) : Sp := fun vs H Q _ => ∃ (x dx : Addr) (b c : V), vs = [.ref x, b, c] ∧ H x = some (.ins C dx []) ∧ ∀ h, H h = none → h ≠ x → Q .non (upd (upd H h (.lst [])) x (.ins C dx (lkF b c h 0)))
def cutH (H : Hp) (x h : Addr) : Hp := fun p => if p = x ∨ p = h then none else H p
structure LkAt (C : Addr) (G H : Hp) (x h : Addr) (b c : V) (n : Int) (us : List V) : Prop where
  sub : Same G H
  gx : G x = none
  gh : G h = none
  ne : h ≠ x
  at_ : ∃ dx, H x = some (.ins C dx (lkF b c h n))
  ls : H h = some (.lst us)
def LkQ (r : R (List D × Int)) (P : List D × Int → Prop) : Prop := match r with
  | .ok r => P r
  | _ => False
theorem LkQ_ok {r : List D × Int} {P : List D × Int → Prop} : LkQ (.ok r) P = P r := rfl
def spLook (K : PySem.W.Frag) (C : Addr) (F : D → D → D → R (List D × Int)) : Sp := fun vs H Q _ => ∃ (G : Hp) (x h : Addr) (b c t : V) (us : List V) (n : Int) (B Cx T : D), vs = [.ref x, t] ∧ LkAt C G H x h b c n us ∧ Rp K G b B ∧ Rp K G c Cx ∧ Rp K G t T ∧
  LkQ (F B Cx T) fun r => us.length + r.1.length < sizeLine ∧ ∀ G' H' us', Ext G (cutH H x h) G' (cutH H' x h) → LkAt C G' H' x h b c (n + r.2) (us ++ us') → RpAll K G' us' r.1 → Q .non H'
theorem ext_cut {G H G' H' : Hp} {x h : Addr} (e : Ext G H G' H') (g1 : G x = none) (g2 : G h = none) (h1 : H x ≠ none) (h2 : H h ≠ none) : Ext G (cutH H x h) G' (cutH H' x h) := by
  have gx : G' x = none := by
    by_cases z : G' x = none
    · exact z
    · exact absurd (e.fr x g1 z) h1
  have gh : G' h = none := by
    by_cases z : G' h = none
    · exact z
    · exact absurd (e.fr h g2 z) h2
  refine ⟨fun p o hp => ?_, fun p o hp => ?_, e.gg, fun p a b => ?_⟩
  · have n : ¬ (p = x ∨ p = h) := by
      rintro (z | z)
      · rw [z, gx] at hp; cases hp
      · rw [z, gh] at hp; cases hp
    show (if p = x ∨ p = h then none else H' p) = _
    rw [if_neg n]; exact e.sub _ _ hp
  · have hp : (if p = x ∨ p = h then none else H p) = some o := hp
    show (if p = x ∨ p = h then none else H' p) = _
    split at hp
    · cases hp
    · rename_i n
      rw [if_neg n]; exact e.hh _ _ hp
  · show (if p = x ∨ p = h then none else H p) = none
    rw [e.fr p a b]
    split <;> rfl
theorem cut_upd1 {H : Hp} {x h : Addr} {o : HO} : cutH (upd H x o) x h = cutH H x h := by
  funext p
  show (if p = x ∨ p = h then none else upd H x o p) = (if p = x ∨ p = h then none else H p)
  by_cases n : p = x ∨ p = h
  · rw [if_pos n, if_pos n]
  · rw [if_neg n, if_neg n, upd_ne fun z => n (.inl z)]
theorem cut_upd2 {H : Hp} {x h : Addr} {o : HO} : cutH (upd H h o) x h = cutH H x h := by
  funext p
  show (if p = x ∨ p = h then none else upd H h o p) = (if p = x ∨ p = h then none else H p)
  by_cases n : p = x ∨ p = h
  · rw [if_pos n, if_pos n]
  · rw [if_neg n, if_neg n, upd_ne fun z => n (.inr z)]
section
variable {C : Addr} {G H G' H' : Hp} {x h : Addr} {b c : V} {n m : Int} {us vs : List V}
theorem LkAt.hx (a : LkAt C G H x h b c n us) : H x ≠ none := by obtain ⟨dx, e⟩ := a.at_; rw [e]; intro z; cases z
theorem LkAt.hh (a : LkAt C G H x h b c n us) : H h ≠ none := by rw [a.ls]; intro z; cases z
theorem LkAt.step (a : LkAt C G H x h b c n us) (e : Ext G H G' H') : LkAt C G' H' x h b c n us := by
  refine ⟨e.sub, ?_, ?_, a.ne, ?_, e.hh _ _ a.ls⟩
  · by_cases z : G' x = none
    · exact z
    · exact absurd (e.fr x a.gx z) a.hx
  · by_cases z : G' h = none
    · exact z
    · exact absurd (e.fr h a.gh z) a.hh
  · obtain ⟨dx, e'⟩ := a.at_
    exact ⟨dx, e.hh _ _ e'⟩
theorem LkAt.cut (a : LkAt C G H x h b c n us) (e : Ext G H G' H') : Ext G (cutH H x h) G' (cutH H' x h) := ext_cut e a.gx a.gh a.hx a.hh
theorem LkAt.count (a : LkAt C G H x h b c n us) {dx : Addr} : LkAt C G (upd H x (.ins C dx (lkF b c h m))) x h b c m us := by
  refine ⟨fun p o hp => ?_, a.gx, a.gh, a.ne, ⟨dx, upd_same⟩, by rw [upd_ne a.ne]; exact a.ls⟩
  rw [upd_ne (ne_of_none hp a.gx)]
  exact a.sub _ _ hp
theorem LkAt.hit (a : LkAt C G H x h b c n us) : LkAt C G (upd H h (.lst vs)) x h b c n vs := by
  refine ⟨fun p o hp => ?_, a.gx, a.gh, a.ne, ?_, upd_same⟩
  · rw [upd_ne (ne_of_none hp a.gh)]
    exact a.sub _ _ hp
  · obtain ⟨dx, e⟩ := a.at_
    exact ⟨dx, by rw [upd_ne a.ne.symm]; exact e⟩
end
/-! ### what look does -/
noncomputable def leafT : EnvS → R Bool := asF (bin2 eqD (bin2 ixD (varD 1) (cD (.int 0))) (cD (.str "leaf")))
noncomputable def lkStep (meet : List D → R D) (rec : D → R (List D × Int)) (B C T : D) : R (List D × Int) :=
  (leafT [none, some (.pu T)]).bind fun l => if l = true then
    (ixD T (.int 1)).bind fun k => (ixD B k).bind fun x => (asB (meet [x, C])).bind fun m => if m = true then .ok ([k], 1) else .ok ([], 1)
  else (ixD T (.int 1)).bind fun x => (asB (meet [x, C])).bind fun m => if m = true then
    (ixD T (.int 2)).bind fun l => (rec l).bind fun p => (ixD T (.int 3)).bind fun r => (rec r).bind fun q => .ok (p.1 ++ q.1, 1 + p.2 + q.2)
    else .ok ([], 1)
noncomputable def lkN (meet : List D → R D) : Nat → D → D → D → R (List D × Int)
  | 0 => fun _ _ _ => .no
  | n + 1 => fun B C T => lkStep meet (lkN meet n B C) B C T
section
variable {K : PySem.W.Frag} {mg : Str → Option Value} {W : WX}
def E00 : XK := fun _ _ _ => False
abbrev tIx1 (K : PySem.W.Frag) (mg : Str → Option Value) (W : WX) (j : Int) : TE := tD K mg W (rpE K) (bin2 ixD (varD 1) (cD (.int j)))
noncomputable abbrev tLook (K : PySem.W.Frag) (mg : Str → Option Value) (W : WX) (C : Addr) (meet : List D → R D) (F : D → D → D → R (List D × Int)) : TS :=
  tSeq (sFldAug K (tVar 0) (tC (.int 1)) (rI0 fun i j => .int (i + j)) "count")
    (tIfS (tD K mg W rpB leafT)
      (tIfS (tTest (tCallS (spD K mg 2 meet) (WE W) (tCons (tOp (rIx K) (tFld K (tVar 0) "boxes") (tIx1 K mg W 1)) (tCons (tFld K (tVar 0) "box") tNil))))
        (tDrop (tBM K "list" rAppend (tFld K (tVar 0) "hits") (tCons (tIx1 K mg W 1) tNil))) tNext)
      (tIfS (tTest (tCallS (spD K mg 2 meet) (WE W) (tCons (tIx1 K mg W 1) (tCons (tFld K (tVar 0) "box") tNil))))
        (tSeq (tDrop (tMeth C "look" (spLook K C F) [] E00 (tVar 0) (tCons (tIx1 K mg W 2) tNil)))
          (tDrop (tMeth C "look" (spLook K C F) [] E00 (tVar 0) (tCons (tIx1 K mg W 3) tNil)))) tNext))
theorem envL {G H : Hp} {x : Addr} {t : V} {T : D} (r : Rp K G t T) : EnvE K G H [some (.ref x), some t] [none, some (.pu T)] := by
  refine ⟨fun i d e => ?_, fun i ds e => ?_, rfl⟩
  · match i, e with
    | 0, e => cases e
    | 1, e => cases e; exact ⟨t, rfl, r⟩
    | i + 2, e => cases e
  · match i, e with
    | 0, e => cases e
    | 1, e => cases e
    | i + 2, e => cases e
theorem ix1_run {G H : Hp} {x : Addr} {t : V} {T d : D} {j : Int} {Q : VK} (hs : Same G H) (r : Rp K G t T) (h : ixD T (.int j) = .ok d) (q : ∀ v G' H', Ext G H G' H' → Rp K G' v d → Q v H') : tIx1 K mg W j [some (.ref x), some t] H Q := by
  refine ⟨G, [none, some (.pu T)], hs, envL r, ?_⟩
  rw [show bin2 ixD (varD 1) (cD (.int j)) [none, some (.pu T)] = ixD T (.int j) from rfl, h]
  exact q
theorem look_run {C fI fL : Addr} {X : Cx} (cc : LkC X.K C fI fL) {meet : List D → R D} {F : D → D → D → R (List D × Int)}
    {G H : Hp} {x h : Addr} {b c t : V} {n : Int} {us : List V} {B Cx T : D} (a : LkAt C G H x h b c n us) (rb : Rp X.K G b B) (rc : Rp X.K G c Cx) (rt : Rp X.K G t T) {Dd : Ends}
    (q : LkQ (lkStep meet (F B Cx) B Cx T) fun r => us.length + r.1.length < sizeLine ∧ ∀ σ G' H' us', Ext G (cutH H x h) G' (cutH H' x h) → LkAt C G' H' x h b c (n + r.2) (us ++ us') → RpAll X.K G' us' r.1 → Dd.nx σ H') : tLook X.K mg W C meet F Dd [some (.ref x), some t] H := by
  obtain ⟨dx, hx⟩ := a.at_
  refine ⟨_, rfl, x, C, dx, _, .int n, rfl, hx, cc.cl, cc.n4, lkF_count _ _ _ _, n, 1, rfl, rfl, dx, _, hx, (by rw [lkF_eq]; show 4 < 1000; decide), ?_⟩
  rw [lkF_put]
  have a1 : LkAt C G (upd H x (.ins C dx (lkF b c h (n + 1)))) x h b c (n + 1) us := a.count
  have ec : cutH (upd H x (.ins C dx (lkF b c h (n + 1)))) x h = cutH H x h := cut_upd1
  rw [← ec] at q
  generalize upd H x (.ins C dx (lkF b c h (n + 1))) = H1 at a1 q
  refine ⟨G, [none, some (.pu T)], a1.sub, envL rt, ?_⟩
  unfold lkStep at q
  cases el : leafT [none, some (.pu T)] with
  | ex z => rw [el] at q; exact q.elim
  | no => rw [el] at q; exact q.elim
  | ok l =>
    rw [el, R.ok_bind] at q
    intro v G2 H2 e2 rv
    cases rv
    have a2 := a1.step e2
    have x2 := a1.cut e2
    have rb2 := rb.up e2.gg
    have rc2 := rc.up e2.gg
    have rt2 := rt.up e2.gg
    obtain ⟨dx2, hx2⟩ := a2.at_
    cases l with
    | true =>
      rw [if_pos rfl] at q
      try dsimp only
      rw [if_pos rfl]
      cases e3 : ixD T (.int 1) with
      | ex z => rw [e3] at q; exact q.elim
      | no => rw [e3] at q; exact q.elim
      | ok k =>
        rw [e3, R.ok_bind] at q
        cases e4 : ixD B k with
        | ex z => rw [e4] at q; exact q.elim
        | no => rw [e4] at q; exact q.elim
        | ok bx =>
          rw [e4, R.ok_bind] at q
          -- self.boxes[tree[1]]
          refine ⟨_, rfl, x, C, dx2, _, b, rfl, hx2, cc.cl, cc.n1, lkF_boxes _ _ _ _, ix1_run a2.sub rt2 e3 fun v3 G3 H3 ex3 r3 => ?_⟩
          have a3 := a2.step ex3
          have x3 := x2.trans (a2.cut ex3)
          refine od_ix (X := X) B k b v3 G3 H3 (fun _ _ => True) _ a3.sub (rb2.up ex3.gg) r3 ?_
          rw [e4]
          intro v4 G4 H4 ex4 r4
          have a4 := a3.step ex4
          have x4 := x3.trans (a3.cut ex4)
          obtain ⟨dx4, hx4⟩ := a4.at_
          refine ⟨_, rfl, x, C, dx4, _, c, rfl, hx4, cc.cl, cc.n2, lkF_box _ _ _ _, ?_⟩
          refine ⟨G4, [bx, Cx], a4.sub, .cons r4 (.cons ((rc2.up ex3.gg).up ex4.gg) .nil), rfl, ?_⟩
          cases em : meet [bx, Cx] with
          | ex z => rw [em] at q; exact q.elim
          | no => rw [em] at q; exact q.elim
          | ok mr =>
            rw [em] at q
            cases mr with
            | bool m =>
              rw [asB_ok, R.ok_bind] at q
              intro v5 G5 H5 ex5 r5
              cases r5
              refine ⟨m, rfl, ?_⟩
              have a5 := a4.step ex5
              have x5 := x4.trans (a4.cut ex5)
              have rt5 := ((rt2.up ex3.gg).up ex4.gg).up ex5.gg
              cases m with
              | false =>
                rw [if_neg Bool.false_ne_true] at q
                try dsimp only
                rw [if_neg Bool.false_ne_true]
                exact q.2 _ G5 H5 [] x5 (by rw [List.append_nil]; exact a5) .nil
              | true =>
                rw [if_pos rfl] at q
                try dsimp only
                rw [if_pos rfl]
                obtain ⟨dx5, hx5⟩ := a5.at_
                refine ⟨_, rfl, x, C, dx5, _, .ref h, rfl, hx5, cc.cl, cc.n3, lkF_hits _ _ _ _, .inl ⟨rfl, us, SqL.of a5.ls⟩, ix1_run a5.sub rt5 e3 fun v6 G6 H6 ex6 r6 => ?_⟩
                have a6 := a5.step ex6
                have x6 := x5.trans (a5.cut ex6)
                have ql : us.length + [k].length < sizeLine := q.1
                refine ⟨h, us, v6, rfl, rfl, a6.ls, by rw [List.length_singleton] at ql; omega, ?_⟩
                exact q.2 _ G6 _ [v6] (by rw [cut_upd2]; exact x6) a6.hit (.one r6)
            | _ => exact q.elim
    | false =>
      rw [if_neg Bool.false_ne_true] at q
      try dsimp only
      rw [if_neg Bool.false_ne_true]
      cases e3 : ixD T (.int 1) with
      | ex z => rw [e3] at q; exact q.elim
      | no => rw [e3] at q; exact q.elim
      | ok bx =>
        rw [e3, R.ok_bind] at q
        refine ix1_run a2.sub rt2 e3 fun v3 G3 H3 ex3 r3 => ?_
        have a3 := a2.step ex3
        have x3 := x2.trans (a2.cut ex3)
        obtain ⟨dx3, hx3⟩ := a3.at_
        refine ⟨_, rfl, x, C, dx3, _, c, rfl, hx3, cc.cl, cc.n2, lkF_box _ _ _ _, ?_⟩
        refine ⟨G3, [bx, Cx], a3.sub, .cons r3 (.cons (rc2.up ex3.gg) .nil), rfl, ?_⟩
        cases em : meet [bx, Cx] with
        | ex z => rw [em] at q; exact q.elim
        | no => rw [em] at q; exact q.elim
        | ok mr =>
          rw [em] at q
          cases mr with
          | bool m =>
            rw [asB_ok, R.ok_bind] at q
            intro v5 G5 H5 ex5 r5
            cases r5
            refine ⟨m, rfl, ?_⟩
            have a5 := a3.step ex5
            have x5 := x3.trans (a3.cut ex5)
            have rb5 := (rb2.up ex3.gg).up ex5.gg
            have rc5 := (rc2.up ex3.gg).up ex5.gg
            have rt5 := (rt2.up ex3.gg).up ex5.gg
            cases m with
            | false =>
              rw [if_neg Bool.false_ne_true] at q
              try dsimp only
              rw [if_neg Bool.false_ne_true]
              exact q.2 _ G5 H5 [] x5 (by rw [List.append_nil]; exact a5) .nil
            | true =>
              rw [if_pos rfl] at q
              try dsimp only
              rw [if_pos rfl]
              obtain ⟨dx5, hx5⟩ := a5.at_
              cases e6 : ixD T (.int 2) with
              | ex z => rw [e6] at q; exact q.elim
              | no => rw [e6] at q; exact q.elim
              | ok l =>
                rw [e6, R.ok_bind] at q
                refine ⟨_, rfl, x, dx5, _, rfl, hx5, lkF_look _ _ _ _, ix1_run a5.sub rt5 e6 fun v6 G6 H6 ex6 r6 => ?_⟩
                have a6 := a5.step ex6
                have x6 := x5.trans (a5.cut ex6)
                refine ⟨G6, x, h, b, c, v6, us, n + 1, B, Cx, l, rfl, a6, rb5.up ex6.gg, rc5.up ex6.gg, r6, ?_⟩
                cases e7 : F B Cx l with
                | ex z => rw [e7] at q; exact q.elim
                | no => rw [e7] at q; exact q.elim
                | ok p =>
                  rw [e7, R.ok_bind] at q
                  rw [LkQ_ok]
                  cases e8 : ixD T (.int 3) with
                  | ex z => rw [e8] at q; exact q.elim
                  | no => rw [e8] at q; exact q.elim
                  | ok r =>
                    rw [e8, R.ok_bind] at q
                    cases e9 : F B Cx r with
                    | ex z => rw [e9] at q; exact q.elim
                    | no => rw [e9] at q; exact q.elim
                    | ok p2 =>
                      rw [e9, R.ok_bind, LkQ_ok] at q
                      dsimp only at q
                      rw [List.length_append] at q
                      refine ⟨by omega, fun G7 H7 us7 x7 a7 r7 => ?_⟩
                      have xx7 := x6.trans x7
                      have gg57 := ex6.gg.trans x7.gg
                      obtain ⟨dx7, hx7⟩ := a7.at_
                      refine ⟨_, rfl, x, dx7, _, rfl, hx7, lkF_look _ _ _ _, ix1_run a7.sub (rt5.up gg57) e8 fun v8 G8 H8 ex8 r8 => ?_⟩
                      have a8 := a7.step ex8
                      have x8 := xx7.trans (a7.cut ex8)
                      have hl7 : us7.length = p.1.length := r7.length
                      refine ⟨G8, x, h, b, c, v8, us ++ us7, n + 1 + p.2, B, Cx, r, rfl, a8, (rb5.up gg57).up ex8.gg, (rc5.up gg57).up ex8.gg, r8, ?_⟩
                      rw [e9, LkQ_ok]
                      refine ⟨by rw [List.length_append]; omega, fun G9 H9 us9 x9 a9 r9 => ?_⟩
                      refine q.2 _ G9 H9 (us7 ++ us9) (x8.trans x9) ?_ ((r7.up (ex8.gg.trans x9.gg)).append r9)
                      rw [← List.append_assoc, show n + (1 + p.2 + p2.2) = n + 1 + p.2 + p2.2 by omega]
                      exact a9
          | _ => exact q.elim
/-! ### the two defs of the class -/
abbrev tInit (K : PySem.W.Frag) : TS := tSeq (sFld K (tVar 0) (tVar 1) "boxes") (tSeq (sFld K (tVar 0) (tVar 2) "box") (tSeq (sFld K (tVar 0) (tLst tNil) "hits") (sFld K (tVar 0) (tC (.int 0)) "count")))
theorem init_run {C fI fL : Addr} (cc : LkC K C fI fL) {H : Hp} {x dx : Addr} {b c : V} (hx : H x = some (.ins C dx [])) {Dd : Ends}
    (q : ∀ h, H h = none → h ≠ x → Dd.nx [some (.ref x), some b, some c] (upd (upd H h (.lst [])) x (.ins C dx (lkF b c h 0)))) : tInit K Dd [some (.ref x), some b, some c] H := by
  refine ⟨b, rfl, _, rfl, x, C, dx, [], rfl, hx, cc.cl, cc.n1, (by show 0 < 1000; decide), ?_⟩
  refine ⟨c, rfl, _, rfl, x, C, dx, _, rfl, upd_same, cc.cl, cc.n2, (by show 1 < 1000; decide), ?_⟩
  refine ⟨Nat.zero_le _, fun h hh => ?_⟩
  have hne : h ≠ x := fun z => by rw [z, upd_same] at hh; cases hh
  have hH : H h = none := by rw [upd_ne hne, upd_ne hne] at hh; exact hh
  have l3 : (putF ("box" : Str) c (putF ("boxes" : Str) b [])).length < 1000 := by
    have e1 : putF ("box" : Str) c (putF ("boxes" : Str) b []) = ([("boxes", b), ("box", c)] : List (Str × V)) := by
      show (if ("boxes" : Str) = "box" then [(("boxes" : Str), c)] else (("boxes" : Str), b) :: putF ("box" : Str) c []) = _
      rw [if_neg kk1]; rfl
    rw [e1]; show 2 < 1000; decide
  have l4 : (putF ("hits" : Str) (V.ref h) (putF ("box" : Str) c (putF ("boxes" : Str) b []))).length < 1000 := by
    have e1 : putF ("box" : Str) c (putF ("boxes" : Str) b []) = ([("boxes", b), ("box", c)] : List (Str × V)) := by
      show (if ("boxes" : Str) = "box" then [(("boxes" : Str), c)] else (("boxes" : Str), b) :: putF ("box" : Str) c []) = _
      rw [if_neg kk1]; rfl
    have e2 : putF ("hits" : Str) (.ref h) ([("boxes", b), ("box", c)] : List (Str × V)) = ([("boxes", b), ("box", c), ("hits", V.ref h)] : List (Str × V)) := by
      show (if ("boxes" : Str) = "hits" then _ else (("boxes" : Str), b) :: (if ("box" : Str) = "hits" then _ else (("box" : Str), c) :: putF ("hits" : Str) (V.ref h) [])) = _
      rw [if_neg kk2, if_neg kk4]; rfl
    rw [e1, e2]; show 3 < 1000; decide
  refine ⟨_, rfl, x, C, dx, _, rfl, (by rw [upd_ne hne.symm, upd_same]), cc.cl, cc.n3, l3, ?_⟩
  refine ⟨_, rfl, x, C, dx, _, rfl, upd_same, cc.cl, cc.n4, l4, ?_⟩
  have e : upd (upd (upd (upd (upd H x (.ins C dx (putF ("boxes" : Str) b []))) x (.ins C dx (putF ("box" : Str) c (putF ("boxes" : Str) b [])))) h (.lst [])) x (.ins C dx (putF ("hits" : Str) (V.ref h) (putF ("box" : Str) c (putF ("boxes" : Str) b []))))) x (.ins C dx (putF ("count" : Str) (.int 0) (putF ("hits" : Str) (V.ref h) (putF ("box" : Str) c (putF ("boxes" : Str) b []))))) = upd (upd H h (.lst [])) x (.ins C dx (lkF b c h 0)) := by
    funext p
    by_cases hp : p = x
    · rw [hp, upd_same, upd_same]; rfl
    · rw [upd_ne hp, upd_ne hp, upd_ne hp]
      by_cases hq : p = h
      · rw [hq, upd_same, upd_same]
      · rw [upd_ne hq, upd_ne hq, upd_ne hp, upd_ne hp]
  have q' := q h hH hne
  rw [← e] at q'
  exact q'
end
section
variable {P : Program} {w : World} {K : PySem.W.Frag} {mg : Str → Option Value} {base : Heap} {C fI fL : Addr}
theorem lkinit_ok {qual : Str} {st : Stmt} {f : Addr} {fd : FuncData} {k : Nat} (F : Fun K "__init__" qual st f fd) (S : FnScope ["self", "boxes", "box"] ["self", "boxes", "box"] (defScope st)) (cc : LkC K C fI fL)
    (hb : ∀ (cdv : Value) (A : Around) (outer : List Env) (s : Shared) (H : Hp) (E : XK), PSs (cxOf (L2.CX P w) P w K mg base ["self", "boxes", "box"] qual (defScope st) f cdv A outer s H E) (defBody st) (tInit K)) :
    FnOk P w K mg base (L2.CX P w) (k + 1) f fd ["self", "boxes", "box"] (spLkI C) := by
  refine F.okX S (fun vs H Q E ⟨x, dx, b, c, e, _⟩ => by rw [e]; rfl) fun cdv A outer s H vs Q E hr ⟨x, dx, b, c, e, hx, q⟩ => ⟨_, hb cdv A outer s H E, ?_⟩
  subst e
  exact init_run cc hx fun h hh hne => q h hh hne
theorem lklook_ok {qual : Str} {st : Stmt} {f : Addr} {fd : FuncData} {k : Nat} {meet : List D → R D} {F0 : D → D → D → R (List D × Int)} (F : Fun K "look" qual st f fd) (S : FnScope ["self", "tree"] ["self", "tree"] (defScope st)) (cc : LkC K C fI fL)
    (hb : ∀ (cdv : Value) (A : Around) (outer : List Env) (s : Shared) (H : Hp) (E : XK), Room k (A.deeper (envOfC qual (defScope st) s.heap.objs.size f cdv)) →
      Takes (cxOf (L2.CX P w) P w K mg base ["self", "tree"] qual (defScope st) f cdv A outer s H E) (fun c d _ H => E c d H) →
      PSs (cxOf (L2.CX P w) P w K mg base ["self", "tree"] qual (defScope st) f cdv A outer s H E) (defBody st) (tLook K mg (fun c d _ H => E c d H) C meet F0)) :
    FnOk P w K mg base (L2.CX P w) (k + 1) f fd ["self", "tree"] (spLook K C fun B Cx T => lkStep meet (F0 B Cx) B Cx T) := by
  refine F.okX S (fun vs H Q E ⟨G, x, h, b, c, t, us, n, B, Cx, T, e, _⟩ => by rw [e]; rfl) fun cdv A outer s H vs Q E hr ⟨G, x, h, b, c, t, us, n, B, Cx, T, e, a, rb, rc, rt, q⟩ => ⟨_, hb cdv A outer s H E hr (takes_of rfl rfl rfl rfl), ?_⟩
  subst e
  refine look_run (X := cxOf (L2.CX P w) P w K mg base ["self", "tree"] qual (defScope st) f cdv A outer s H E) cc a rb rc rt ?_
  have q : LkQ (lkStep meet (F0 B Cx) B Cx T) _ := q
  cases e : lkStep meet (F0 B Cx) B Cx T with
  | ok r =>
    rw [e] at q
    exact ⟨q.1, fun σ G' H' us' z1 z2 z3 => q.2 G' H' us' z1 z2 z3⟩
  | ex z => rw [e] at q; exact q.elim
  | no => rw [e] at q; exact q.elim
theorem lk_none {k : Nat} {f : Addr} {fd : FuncData} {ps : List Str} : FnOk P w K mg base (L2.CX P w) k f fd ps (spLook K C fun _ _ _ => .no) :=
  ⟨fun _ _ _ _ ⟨_, _, _, _, _, _, _, _, _, _, _, _, _, _, _, _, q⟩ => q.elim, fun _ _ _ _ _ _ _ _ _ _ _ _ _ ⟨_, _, _, _, _, _, _, _, _, _, _, _, _, _, _, _, q⟩ => q.elim⟩
end
/-! ### the pair: x = Looking(a, b); x.look(t) -/
section
variable {X : Cx} {W : WX} {pos : Pos} {wr : List Nat}
theorem pass00 : Passes (L2.CX X.prog X.w) X E00 := fun _ _ _ _ _ _ _ c => by obtain ⟨_, _, _, _, _, _, _, _, _, _, _, _, z⟩ := c; exact z.elim
def lkR (i : Nat) (r : R (List D × Int)) (ρ : EnvS) : Out := match r with
  | .ok r => if lineOk (r.1.length + 1) && decide (i < ρ.length) then .nx (ρ.set i (some (.pu (lkD r.1 r.2)))) else .no
  | _ => .no
def lkK (i : Nat) (t : R D) (F : D → R (List D × Int)) (ρ : EnvS) : Out := match t with
  | .ok t => lkR i (F t) ρ
  | _ => .no
theorem lkK_ok {i : Nat} {t : D} {F : D → R (List D × Int)} {ρ : EnvS} : lkK i (.ok t) F ρ = lkR i (F t) ρ := rfl
theorem lkR_ok {i : Nat} {r : List D × Int} {ρ : EnvS} : lkR i (.ok r) ρ = if lineOk (r.1.length + 1) && decide (i < ρ.length) then .nx (ρ.set i (some (.pu (lkD r.1 r.2)))) else .no := rfl
def lkO (i : Nat) (f1 f2 f3 : EnvS → R D) (F : D → D → D → R (List D × Int)) : EnvS → Out := fun ρ => (f1 ρ).out ρ fun a => (f2 ρ).out ρ fun b => lkK i (f3 (ρ.set i none)) (F a b) ρ
theorem ss_look (i : Nat) {kI kL : Nat} {C fI fL : Addr} {fdI fdL : FuncData} {F : D → D → D → R (List D × Int)} {nm y : Str} {e1 e2 e3 : Expr} {f1 f2 f3 : EnvS → R D} {rs : List Stmt} {g : EnvS → Out} {p1 p2 p3 p4 p5 p6 p7 p8 : Pos}
    (cc : LkC X.K C fI fL) (FI : FnOk X.prog X.w X.K X.mg X.base (L2.CX X.prog X.w) kI fI fdI ["self", "boxes", "box"] (spLkI C)) (hrI : Room (kI + 1) X.A) (hm : X.mg nm = some (.ref C)) (bI : Binds X.K fdI ["self", "boxes", "box"] [])
    (FL : FnOk X.prog X.w X.K X.mg X.base (L2.CX X.prog X.w) kL fL fdL ["self", "tree"] (spLook X.K C F)) (hrL : Room kL X.A) (bL : Binds X.K fdL ["self", "tree"] [])
    (hnd : X.N.Nodup) (h1 : PD X W e1 f1) (h2 : PD X W e2 f2) (h3 : PD X W e3 f3) (hr : PSsD X W wr rs g) (hj : X.N[i]? = some y := by rfl) (hy : Loc X.env.scope y := by first | exact Or.inl rfl | exact Or.inr rfl) (hv : Vis X.env.scope y := by first | exact Or.inl rfl | exact Or.inr (Or.inl rfl) | exact Or.inr (Or.inr rfl))
    (hd : (y == ("__debug__" : Str)) = false := by decide) (hcd : (y == ("__classdict__" : Str)) = false := by decide) (hg : Gl X nm := by rfl) (hdb : (nm == ("__debug__" : Str)) = false := by decide)
    (q1 : starEach [e1, e2] X.env = (false, eval e1 X.env) :: starEach [e2] X.env := by rfl) (q2 : starEach [e2] X.env = (false, eval e2 X.env) :: starEach [] X.env := by rfl) (q3 : starEach [e3] X.env = (false, eval e3 X.env) :: starEach [] X.env := by rfl)
    (pl1 : (backTo p3 (starEach [e2] X.env)).any (·.1) = false := by rfl) (pl2 : (backTo p8 (starEach [] X.env)).any (·.1) = false := by rfl)
    (hs : swapsWith (.Call (.Name nm p2) [e1, e2] [] p3) (some (.Name y p1)) p4.line X.env = pure false := by rfl) (hf : X.fn y = true ∨ X.env.scope.names.lookup y = some .local := by first | exact .inl rfl | exact .inr rfl)
    (hs2 : swapsWith (.Call (.Attribute (.Name y p5) "look" p6) [e3] [] p8) none p7.line X.env = pure false := by rfl) {pl : Sem Bool}
    (ht : eval (.Call (.Attribute (.Name y p5) "look" p6) [e3] [] p8) X.env = (do
      let ov ← eval (.Name y p5) X.env
      standAt p6.atName
      let (f, first) ← holding [ov] (getMethod ov "look" pl)
      callWith p8 f first (backTo p8 (starEach [e3] X.env)) (backToKw p8 (keywordEach [] X.env))) := by rfl) :
    PSsD X W (i :: wr) (.Assign [.Name y p1] (.Call (.Name nm p2) [e1, e2] [] p3) p4 :: .Expr (.Call (.Attribute (.Name y p5) "look" p6) [e3] [] p8) p7 :: rs) (sqO (lkO i f1 f2 f3 F) g) :=
  (pss_cons (ps_set hnd hj hy (pe_make cc.mak FI hrI hg hm bI .nil pass00 (pa_cons h1 (pa_cons h2 pa_nil q2) q1) hdb q1 pl1) hs hf)
    (pss_cons (ps_expr (pe_meth (pl := pl) (pe_var hj hv hd hcd) cc.cl cc.me FL hrL bL .nil pass00 (pa_cons h3 pa_nil q3) q3 pl2 ht) hs2) hr)).wk fun Dd σ H ⟨G0, H0, G, ρ, ok, q⟩ => by
    unfold sqO lkO at q
    have qa : PostS X.K X.mg W G0 H0 (i :: wr) σ ρ G ((f1 ρ).out ρ fun a => ((f2 ρ).out ρ fun b => lkK i (f3 (ρ.set i none)) (F a b) ρ).seq g) Dd := by
      cases e : f1 ρ with
      | ok a => rw [e] at q; exact q
      | ex z => rw [e] at q; exact q
      | no => rw [e] at q; exact q
    refine outE qa ok fun a v1 G1 H1 _ x1 r1 ok1 qb => ?_
    have qc : PostS X.K X.mg W G0 H0 (i :: wr) σ ρ G1 ((f2 ρ).out ρ fun b => (lkK i (f3 (ρ.set i none)) (F a b) ρ).seq g) Dd := by
      cases e : f2 ρ with
      | ok a => rw [e] at qb; exact qb
      | ex z => rw [e] at qb; exact qb
      | no => rw [e] at qb; exact qb
    refine outE qc ok1 fun b v2 G2 H2 _ x2 r2 ok2 qd => ?_
    intro x dx nx ndx nex
    refine ⟨x, dx, v1, v2, rfl, upd_same, fun h hh hne => ⟨rfl, ?_⟩⟩
    have hhd : h ≠ dx := fun z => by rw [z, upd_ne nex, upd_same] at hh; cases hh
    have hh2 : H2 h = none := by rw [upd_ne hne, upd_ne hhd] at hh; exact hh
    have g2x : G2 x = none := ok2.ext.sub.free nx
    have g2h : G2 h = none := ok2.ext.sub.free hh2
    have s24 : Same H2 (upd (upd (upd (upd H2 dx (.own x)) x (.ins C dx [])) h (.lst [])) x (.ins C dx (lkF v1 v2 h 0))) := fun p o e => by
      rw [upd_ne (ne_of_none e nx), upd_ne (ne_of_none e hh2), upd_ne (ne_of_none e nx), upd_ne (ne_of_none e ndx)]
      exact e
    have h4x : (upd (upd (upd (upd H2 dx (.own x)) x (.ins C dx [])) h (.lst [])) x (.ins C dx (lkF v1 v2 h 0))) x = some (.ins C dx (lkF v1 v2 h 0)) := upd_same
    have h4h : (upd (upd (upd (upd H2 dx (.own x)) x (.ins C dx [])) h (.lst [])) x (.ins C dx (lkF v1 v2 h 0))) h = some (.lst []) := by rw [upd_ne hne, upd_same]
    generalize upd (upd (upd (upd H2 dx (.own x)) x (.ins C dx [])) h (.lst [])) x (.ins C dx (lkF v1 v2 h 0)) = H4 at s24 h4x h4h
    have e24 : Ext G2 H2 G2 H4 := ⟨ok2.ext.sub.trans s24, s24, .refl _, fun _ z1 z2 => absurd z1 z2⟩
    have hil : i < σ.length := by
      rw [ok2.len]
      unfold lkK at qd
      split at qd
      · unfold lkR at qd
        split at qd
        · split at qd
          · rename_i hl
            rw [Bool.and_eq_true] at hl
            exact of_decide_eq_true hl.2
          · exact qd.elim
        · exact qd.elim
      · exact qd.elim
    refine ⟨.ref x, List.getElem?_set_self hil, x, dx, _, rfl, h4x, lkF_look _ _ _ _, ?_⟩
    have env4 : EnvE X.K G2 H4 (σ.set i (some (.ref x))) (ρ.set i none) := by
      have e := ok2.env.up e24
      refine ⟨fun j d z => ?_, fun j ds z => ?_, by rw [List.length_set, List.length_set]; exact e.len⟩
      · rcases get_set z with ⟨_, z2, _⟩ | ⟨z1, z2⟩
        · cases z2
        · rw [List.getElem?_set_ne (Ne.symm z1)]; exact e.pu j d z2
      · rcases get_set z with ⟨_, z2, _⟩ | ⟨z1, z2⟩
        · cases z2
        · rw [List.getElem?_set_ne (Ne.symm z1)]; exact e.ow j ds z2
    refine ⟨G2, ρ.set i none, ok2.ext.sub.trans s24, env4, ?_⟩
    cases e3 : f3 (ρ.set i none) with
    | ex z => rw [e3] at qd; exact qd.elim
    | no => rw [e3] at qd; exact qd.elim
    | ok t =>
      rw [e3, lkK_ok] at qd
      intro v5 G5 H5 x5 r5
      have a4 : LkAt C G2 H4 x h v1 v2 0 [] := ⟨ok2.ext.sub.trans s24, g2x, g2h, hne, ⟨dx, h4x⟩, h4h⟩
      have a5 := a4.step x5
      refine ⟨G5, x, h, v1, v2, v5, [], 0, a, b, t, rfl, a5, (Rp.up r1 x2.gg).up x5.gg, Rp.up r2 x5.gg, r5, ?_⟩
      cases e4 : F a b t with
      | ex z => rw [e4] at qd; exact qd.elim
      | no => rw [e4] at qd; exact qd.elim
      | ok r =>
        rw [e4, lkR_ok] at qd
        split at qd
        · rename_i hl
          rw [Bool.and_eq_true] at hl
          have hl := hl.1
          rw [LkQ_ok]
          refine ⟨by have := lineOk_le hl; simp only [List.length_nil]; omega, fun G6 H6 us6 x6 a6 r6 => ?_⟩
          rw [List.nil_append, Int.zero_add] at a6
          have e25 : Ext G2 H2 G5 (cutH H5 x h) := by
            refine ⟨fun p o z => ?_, fun p o z => ?_, x5.gg, fun p z1 z2 => ?_⟩
            · have n : ¬ (p = x ∨ p = h) := by
                rintro (n | n)
                · rw [n, a5.gx] at z; cases z
                · rw [n, a5.gh] at z; cases z
              show (if p = x ∨ p = h then none else H5 p) = _
              rw [if_neg n]; exact x5.sub _ _ z
            · have n : ¬ (p = x ∨ p = h) := by
                rintro (n | n)
                · rw [n, nx] at z; cases z
                · rw [n, hh2] at z; cases z
              show (if p = x ∨ p = h then none else H5 p) = _
              rw [if_neg n]; exact x5.hh _ _ (s24 _ _ z)
            · have := x5.fr p z1 z2
              by_cases z3 : H2 p = none
              · exact z3
              · cases z4 : H2 p with
                | none => rfl
                | some o => rw [s24 _ _ z4] at this; cases this
          obtain ⟨dx6, hx6⟩ := a6.at_
          have e67 : Ext G6 (cutH H6 x h) (upd (upd G6 h (.lst us6)) x (.ins C dx6 (lkF v1 v2 h r.2))) H6 := by
            refine ⟨fun p o z => ?_, fun p o z => ?_, fun p o z => ?_, fun p z1 z2 => ?_⟩
            · by_cases n1 : p = x
              · rw [n1, upd_same] at z; rw [n1, hx6]; exact z
              · rw [upd_ne n1] at z
                by_cases n2 : p = h
                · rw [n2, upd_same] at z; rw [n2, a6.ls]; exact z
                · rw [upd_ne n2] at z; exact a6.sub _ _ z
            · have z : (if p = x ∨ p = h then none else H6 p) = some o := z
              split at z
              · cases z
              · exact z
            · rw [upd_ne (ne_of_none z a6.gx), upd_ne (ne_of_none z a6.gh)]; exact z
            · show (if p = x ∨ p = h then none else H6 p) = none
              by_cases n : p = x ∨ p = h
              · rw [if_pos n]
              · exact absurd z1 (by rw [upd_ne fun z => n (.inl z), upd_ne fun z => n (.inr z)] at z2; exact z2)
          have e27 : Ext G2 H2 (upd (upd G6 h (.lst us6)) x (.ins C dx6 (lkF v1 v2 h r.2))) H6 := (e25.trans x6).trans e67
          have ok6 := ok2.step e27
          have rl : Rp X.K (upd (upd G6 h (.lst us6)) x (.ins C dx6 (lkF v1 v2 h r.2))) (.ref x) (lkD r.1 r.2) :=
            .obj upd_same cc.cl cc.n3 cc.n4 (lkF_hits _ _ _ _) (lkF_count _ _ _ _) (by rw [upd_ne hne, upd_same]) (r6.up e67.gg)
          exact ⟨G0, H0, _, _, ok6.put rl i, PostS.later qd (fun j z => List.mem_cons_of_mem _ z) e27.gg (fr_set.mono fun j z => by rw [List.mem_singleton.mp z]; exact List.mem_cons_self)⟩
        · exact qd.elim
end
end TD

/-! TdTas: except clauses with a name, with a tuple of classes. -/
namespace TD
open PySem PySem.Spec PyProof.Rows L2
/-- what a clause's test does -/
def TestT (X : Cx) (t : Expr) (f : Value → Option Bool) : Prop :=
  ∀ (a : Addr) (oe : Obj) (pn : List (Addr × Obj)) (σ : L2.St) (H : Hp) (s : Shared) (cls : Value) (b : Bool) (Q : Bool → Shared → Prop) (E : Value → Shared → Prop),
    Inv (X.suite a ((a, oe) :: pn)) [] σ H s → PySem.W.Looks (model X.prog X.w) s.heap (typeOf (.ref a)) cls → f cls = some b →
    (∀ h', (∀ q o, s.heap.get? q = some o → h'.get? q = some o) → Q b { s with heap := h' }) →
    wpAny (model X.prog X.w) (X.A.mark (some (.ref a))) (eval t X.env) (fun c s₁ => wpAny (model X.prog X.w) (X.A.mark (some (.ref a))) (excMatches (.ref a) c) Q E s₁) E s
theorem test_name {X : Cx} {x : Str} {c : Value} {np : Pos} (hm : X.mg x = some c) (hg : Gl X x := by rfl) (hdb : (x == ("__debug__" : Str)) = false := by decide) : TestT X (.Name x np) (fun cls => PySem.W.exmOne X.K cls c) :=
  fun a oe pn σ H s cls b Q E I LT hf q => ld_glob (X := X.suite a ((a, oe) :: pn)) I hg hm ((PySem.W.exm_one (M := model X.prog X.w) (Inv.kIn (X := X.suite a ((a, oe) :: pn)) I) LT hf).here (q s.heap fun _ _ z => z)) hdb
theorem test_tup2 {X : Cx} {x1 x2 : Str} {c1 c2 : Value} {p1 p2 tpos : Pos} {kk : Nat} (hm1 : X.mg x1 = some c1) (hm2 : X.mg x2 = some c2) (hg1 : Gl X x1 := by rfl) (hg2 : Gl X x2 := by rfl) (hd1 : (x1 == ("__debug__" : Str)) = false := by decide)
    (hd2 : (x2 == ("__debug__" : Str)) = false := by decide) : TestT X (.Tuple [.Name x1 p1, .Name x2 p2] kk tpos) (fun cls => PySem.W.exmAny X.K cls [c1, c2]) := fun a oe pn σ H s cls b Q E I LT hf q => by
  refine wpAny_Tuple ?_
  refine wpAny_items_cons (ld_glob (X := X.suite a ((a, oe) :: pn)) I hg1 hm1 ?_ hd1)
  refine wpAny_items_cons (ld_glob (X := X.suite a ((a, oe) :: pn)) I hg2 hm2 ?_ hd2)
  refine wpAny_items_nil ⟨by size_fits, ?_⟩
  have kp : ∀ q o, s.heap.get? q = some o → (s.heap.push { cls := .type "tuple", data := .seq [c1, c2].toArray }).get? q = some o := fun _ _ z => Heap.get?_push_of_some _ z
  exact (PySem.W.exm_tup2 (M := model X.prog X.w) ((Inv.kIn (X := X.suite a ((a, oe) :: pn)) I).keeps kp) (LT.keeps kp) (Heap.get?_push_size s.heap rfl) hf).here (q _ kp)
/-- what the clauses wish of an exception of the body -/
def wCls (Wout : WX) (D : Ends) : List ((Value → Option Bool) × (Addr → Value → Option Addr → TS)) → WX
  | [] => Wout
  | (f, ts) :: r => fun cls d σ H => ∃ b, f cls = some b ∧ (b = true → ∀ a, H a = none → ts a cls d D σ H) ∧ (b = false → wCls Wout D r cls d σ H)
/-- a suite with the name at the place i -/
def tAs (i : Nat) (ts : Addr → Value → Option Addr → TS) : Addr → Value → Option Addr → TS := fun a cls d D σ H =>
  ts a cls d { nx := fun σ' H' => D.nx (σ'.set i none) H', rt := D.rt, bk := fun σ' H' => D.bk (σ'.set i none) H', ct := fun σ' H' => D.ct (σ'.set i none) H' } (σ.set i (some (.ref a))) H
inductive ClsOk (X : Cx) : List ExceptHandler → List ((Value → Option Bool) × (Addr → Value → Option Addr → TS)) → Prop
  | nil : ClsOk X [] []
  | as {t : Expr} {n : Str} {i : Nat} {f : Value → Option Bool} {ts : Addr → Value → Option Addr → TS} {b₀ : Stmt} {suite : List Stmt} {pos' : Pos} {hds : List ExceptHandler} {l : List ((Value → Option Bool) × (Addr → Value → Option Addr → TS))}
      (ht : TestT X t f) (hi : X.N[i]? = some n) (hln : X.env.kindOf n = some .local)
      (hsu : ∀ (a : Addr) (oe : Obj) (cls : Value) (d : Option Addr) (pn : List (Addr × Obj)), Zc cls d oe → (∃ vs, oe.data = .fields vs) → PSs (X.suite a ((a, oe) :: pn)) (b₀ :: suite) (ts a cls d)) (r : ClsOk X hds l) :
      ClsOk X (.ExceptHandler (some t) (some n) (b₀ :: suite) pos' :: hds) ((f, tAs i ts) :: l)
  | plain {t : Expr} {f : Value → Option Bool} {ts : Addr → Value → Option Addr → TS} {b₀ : Stmt} {suite : List Stmt} {pos' : Pos} {hds : List ExceptHandler} {l : List ((Value → Option Bool) × (Addr → Value → Option Addr → TS))}
      (ht : TestT X t f)
      (hsu : ∀ (a : Addr) (oe : Obj) (cls : Value) (d : Option Addr) (pn : List (Addr × Obj)), Zc cls d oe → (∃ vs, oe.data = .fields vs) → PSs (X.suite a ((a, oe) :: pn)) (b₀ :: suite) (ts a cls d)) (r : ClsOk X hds l) :
      ClsOk X (.ExceptHandler (some t) none (b₀ :: suite) pos' :: hds) ((f, ts) :: l)
section
variable {X : Cx} {body : List Stmt} {h₀ : ExceptHandler} {hds : List ExceptHandler} {l : List ((Value → Option Bool) × (Addr → Value → Option Addr → TS))} {pos : Pos} {tb : WX → TS} {Wout : WX}
theorem ps_try_cls (hs : X.stack = X.env :: X.outer) (hf : X.env.frame = some X.env.locals) (hN : X.N.Nodup) (tk : Takes X Wout)
    (hb : ∀ (W : WX) (pn : List (Addr × Obj)) (xe : Value → Shared → Prop), Takes (X.tr pn xe) W → PassesOwn (model X.prog X.w) X.A X.env xe → PSs (X.tr pn xe) body (tb W))
    (hh : ClsOk X (h₀ :: hds) l) : PS X (.Try body (h₀ :: hds) [] [] pos) (fun D σ H => tb (wCls Wout D l) D σ H) := by
  refine ⟨fun pins s σ H D I h => ?_⟩
  have ok := I.ok
  have hfr : X.A.frames = some (X.env :: X.outer) := by rw [ok.frames, hs]
  refine wpAny_Try_except ?_
  refine wpAny_mono ((hb (wCls Wout D l) (X.pn ++ pins) (fun e s₁ => wpAny (model X.prog X.w) X.A (noteFrame e X.env) (fun _ s₂ => wpAny (model X.prog X.w) X.A (setFlight e none) (fun _ s₃ =>
    wpAny (model X.prog X.w) X.A (handleBy e X.env (h₀ :: hds)) (SP X pins D) X.xe s₃) X.xe s₂) X.xe s₁) (fun u s' xx => ?_) PassesOwn.looking).run [] s σ H D (I.toTry _) h) (fun f s1 hsp => ?_) (fun e s1 he => he)
  · obtain ⟨a, B, sI, pins', σ', H', cls, d, rfl, J', nb, up, sky, na, os, ag, w⟩ := xx
    have J : Inv X pins σ' H' sI := J'.ofTry ok
    have sky' : Sky B (X.env :: X.outer) a (Zc cls d) X.env.locals s'.heap := by rw [← hs]; exact sky
    show wpAny (model X.prog X.w) X.A (noteFrame (.ref a) X.env) _ _ _
    refine Sky.land Zc.steady hfr hf sky' fun h3 fl3 up3 => ?_
    have go : ∀ {hds' : List ExceptHandler} {l' : List ((Value → Option Bool) × (Addr → Value → Option Addr → TS))}, ClsOk X hds' l' → ∀ h3, HandSPX.FlyingZ B (X.env :: X.outer) a (Zc cls d) h3 → s'.heap.UpToSlots h3 → wCls Wout D l' cls d σ' H' →
        wpAny (model X.prog X.w) X.A (handleBy (.ref a) X.env hds') (SP X pins D) X.xe { s' with heap := h3 } := by
      intro hds' l' hk
      have base : ∀ h3, HandSPX.FlyingZ B (X.env :: X.outer) a (Zc cls d) h3 → s'.heap.UpToSlots h3 → Inv X pins σ' H' { s' with heap := h3 } ∧ ∃ oe3 vs3, h3.get? a = some oe3 ∧ Zc cls d oe3 ∧ oe3.data = .fields vs3 ∧ a ≠ X.env.locals ∧ a ∉ X.fs := fun h3 fl3 up3 => by
        have J3 : Inv X pins σ' H' { s' with heap := h3 } := J.landed nb fl3.1 (up.trans up3) os ag
        obtain ⟨oe3, vs3, he3, hz3, hd3⟩ := fl3.there
        have notFr : ∀ {h : Heap} {o : Obj} {vs : Array Value}, h.FunFrames B (X.env :: X.outer) → h.get? a = some o → o.data = .fields vs → a ∉ frs (X.env :: X.outer) := fun {h o vs} ff e dd hm => by
          obtain ⟨_, o', e', hnf⟩ := ff.mem hm
          rw [e] at e'; cases e'
          exact hnf _ dd
        have nfr := notFr fl3.2.2.1 he3 hd3
        have nL : a ≠ X.env.locals := fun z => nfr (List.mem_filterMap.mpr ⟨X.env, List.mem_cons_self, by rw [hf, z]⟩)
        have nF : a ∉ X.fs := fun hm => by
          obtain ⟨e, he, q⟩ := List.mem_filterMap.mp hm
          exact nfr (List.mem_filterMap.mpr ⟨e, List.mem_cons_of_mem _ he, q⟩)
        exact ⟨J3, oe3, vs3, he3, hz3, hd3, nL, nF⟩
      have grow : ∀ h3 h', HandSPX.FlyingZ B (X.env :: X.outer) a (Zc cls d) h3 → (∀ q o, h3.get? q = some o → h'.get? q = some o) → HandSPX.FlyingZ B (X.env :: X.outer) a (Zc cls d) h' := fun h3 h' fl kp => by
        obtain ⟨k1, k2, k3, oe, vs, T, oT, ts', he, hz, hd, h1, hn, hne, hT, hdT, h4⟩ := fl
        exact ⟨fun b o e => kp b o (k1 b o e), k2, Heap.FunFrames.of_keeps (fun b o e _ => ⟨o, kp b o e, rfl⟩) k3, oe, vs, T, oT, ts', kp _ _ he, hz, hd, h1, hn, hne, kp _ _ hT, hdT, h4⟩
      induction hk with
      | nil =>
        intro h3 fl3 up3 w
        obtain ⟨J3, -⟩ := base h3 fl3 up3
        refine wpAny_handleBy_nil ?_
        obtain ⟨k1, k2, k3, oe, vs, T, oT, ts', he, hz, hd, h1, hr⟩ := id fl3
        unfold PySem.passOn
        refine wpAny_bind (wpAny_field he hd h1 ?_)
        rw [if_neg (show ¬ ((Value.ref T == Value.none) = true) from by simp)]
        have fin : wpAny (model X.prog X.w) X.A (setFlight (.ref a) X.env.frame) (fun _ s4 => wpAny (model X.prog X.w) X.A (throw (.ref a) : Sem Flow) (SP X pins D) X.xe s4) X.xe { s' with heap := h3 } := by
          rw [hf]
          refine HandSPX.setFlight_upZ fl3 fun h4 hh4 up4 => wpAny_throw (tk _ _ ?_)
          exact ⟨a, B, sI, pins, σ', H', cls, d, rfl, J, nb, (up.trans up3).trans up4, .inr (.inr (by rw [hs]; exact hh4)), na, os, ag, w⟩
        first
          | exact wpAny_bind (wpAny_pure (wpAny_bind fin))
          | exact wpAny_bind fin
      | @as t n i f ts b₀ suite pos' hds2 l2 ht hi hln hsu r ih =>
        intro h3 fl3 up3 w
        obtain ⟨J3, oe3, vs3, he3, hz3, hd3, nL, nF⟩ := base h3 fl3 up3
        have S3 := J3.suite he3 hd3 na nL nF
        obtain ⟨b, hb1, hyes, hno⟩ := w
        refine wpAny_handleBy_cons (codeAny_handlers_test ?_) (by intro q; cases q)
        have LT : PySem.W.Looks (model X.prog X.w) h3 (typeOf (.ref a)) cls := fun A Q E s k q => wpAny_typeOf_ref (k _ _ he3) (by rw [hz3.1]; exact q)
        refine ht a oe3 (X.pn ++ pins) σ' H' { s' with heap := h3 } cls b _ _ S3 LT hb1 fun h5 kp => ?_
        have fl5 := grow h3 h5 fl3 kp
        have up5 : s'.heap.UpToSlots h5 := up3.trans (Heap.UpToSlots.of_keeps kp)
        cases b with
        | true =>
          refine codeAny_handlers_suite_as ?_
          refine HandSPX.lands_againZ fl5 fun h4 fl4 up4 => ?_
          obtain ⟨J4, oe4, vs4, he4, hz4, hd4, nL4, nF4⟩ := base h4 fl4 (up5.trans up4)
          have S4 := J4.suite he4 hd4 na nL nF
          refine store_ok (X := X.suite a ((a, oe4) :: (X.pn ++ pins))) (v := .ref a) S4 hN hi (.inl hln) rfl (fun s5 S5 => ?_) (.inr hln)
          refine wpAny_mono ((hsu a oe4 cls d (X.pn ++ pins) hz4 ⟨_, hd4⟩).run [] s5 _ H' _ S5 (hyes rfl a na)) (fun f s6 hsp => ?_) (fun _ _ z => False.elim z)
          have end_ : ∀ {σ6 : L2.St} {H6 : Hp} {Q : Shared → Prop}, Inv (X.suite a ((a, oe4) :: (X.pn ++ pins))) [] σ6 H6 s6 → (∀ s7, Inv X pins (σ6.set i none) H6 s7 → Q s7) →
              wpAny (model X.prog X.w) X.A (do bindName X.env n .none; unbindBehindTheSuite X.env n pos') (fun _ s7 => Q s7) X.xe s6 := fun {σ6 H6 Q} S6 hq => gone_ok (S6.unsuite ok) hN hi hln hq
          cases f with
          | next =>
            obtain ⟨σ6, H6, S6, q6⟩ := hsp
            exact end_ S6 fun s7 J7 => ⟨_, _, J7, q6⟩
          | brk =>
            obtain ⟨σ6, H6, S6, q6⟩ := hsp
            exact end_ S6 fun s7 J7 => ⟨_, _, J7, q6⟩
          | cont =>
            obtain ⟨σ6, H6, S6, q6⟩ := hsp
            exact end_ S6 fun s7 J7 => ⟨_, _, J7, q6⟩
          | ret u =>
            obtain ⟨v6, σ6, H6, S6, r6, q6⟩ := hsp
            exact end_ S6 fun s7 J7 => ⟨_, _, _, J7, r6, q6⟩
        | false =>
          show wpAny _ X.A (handleBy (.ref a) X.env hds2) _ _ _
          exact ih h5 fl5 up5 (hno rfl)
      | @plain t f ts b₀ suite pos' hds2 l2 ht hsu r ih =>
        intro h3 fl3 up3 w
        obtain ⟨J3, oe3, vs3, he3, hz3, hd3, nL, nF⟩ := base h3 fl3 up3
        have S3 := J3.suite he3 hd3 na nL nF
        obtain ⟨b, hb1, hyes, hno⟩ := w
        refine wpAny_handleBy_cons (codeAny_handlers_test ?_) (by intro q; cases q)
        have LT : PySem.W.Looks (model X.prog X.w) h3 (typeOf (.ref a)) cls := fun A Q E s k q => wpAny_typeOf_ref (k _ _ he3) (by rw [hz3.1]; exact q)
        refine ht a oe3 (X.pn ++ pins) σ' H' { s' with heap := h3 } cls b _ _ S3 LT hb1 fun h5 kp => ?_
        have fl5 := grow h3 h5 fl3 kp
        have up5 : s'.heap.UpToSlots h5 := up3.trans (Heap.UpToSlots.of_keeps kp)
        cases b with
        | true =>
          refine codeAny_handlers_suite ?_
          refine HandSPX.lands_againZ fl5 fun h4 fl4 up4 => ?_
          obtain ⟨J4, oe4, vs4, he4, hz4, hd4, nL4, nF4⟩ := base h4 fl4 (up5.trans up4)
          have S4 := J4.suite he4 hd4 na nL nF
          refine wpAny_mono ((hsu a oe4 cls d (X.pn ++ pins) hz4 ⟨_, hd4⟩).run [] _ _ H' _ S4 (hyes rfl a na)) (fun f s6 hsp => ?_) (fun _ _ z => False.elim z)
          cases f with
          | next =>
            obtain ⟨σ6, H6, S6, q6⟩ := hsp
            exact ⟨_, _, S6.unsuite ok, q6⟩
          | brk =>
            obtain ⟨σ6, H6, S6, q6⟩ := hsp
            exact ⟨_, _, S6.unsuite ok, q6⟩
          | cont =>
            obtain ⟨σ6, H6, S6, q6⟩ := hsp
            exact ⟨_, _, S6.unsuite ok, q6⟩
          | ret u =>
            obtain ⟨v6, σ6, H6, S6, r6, q6⟩ := hsp
            exact ⟨_, _, _, S6.unsuite ok, r6, q6⟩
        | false =>
          show wpAny _ X.A (handleBy (.ref a) X.env hds2) _ _ _
          exact ih h5 fl5 up5 (hno rfl)
    exact go hh h3 fl3 up3 w
  · cases f with
    | next =>
      obtain ⟨σ', H', J', q⟩ := hsp
      exact wpAny_execs_nil ⟨σ', H', J'.ofTry ok, q⟩
    | brk =>
      obtain ⟨σ', H', J', q⟩ := hsp
      exact ⟨σ', H', J'.ofTry ok, q⟩
    | cont =>
      obtain ⟨σ', H', J', q⟩ := hsp
      exact ⟨σ', H', J'.ofTry ok, q⟩
    | ret u =>
      obtain ⟨v, σ', H', J', r, q⟩ := hsp
      exact ⟨v, σ', H', J'.ofTry ok, r, q⟩
end

/-! ### suites that tell by isinstance -/
def lkpR : List (Str × D) → Str → Option D
  | [], _ => none
  | (y, d) :: r, x => if x = y then some d else lkpR r x
def tryR (tb : List (Str × D)) (g : EnvS → Out) : EnvS → Out := fun ρ => match g ρ with
  | .ex x _ => (match lkpR tb x with
    | some d => .rt d
    | none => .no)
  | o => o
/-- the caught a stands at the place i -/
def AtE (i : Nat) (a : Addr) (σ : L2.St) : Prop := ∃ σ0 : L2.St, σ = σ0.set i (some (.ref a))
abbrev SelE (X : Cx) (i : Nat) (a : Addr) (e : Expr) (dd : D) : Prop := PE X e (fun σ H Q => AtE i a σ ∧ tD X.K X.mg W0 (rpE X.K) (cD dd) σ H Q)
def SelS (X : Cx) (i : Nat) (st : List Stmt) (c : Value) (dd : D) : Prop := ∀ (a : Addr) (oe : Obj) (pn : List (Addr × Obj)), Zc c none oe → (∃ vs, oe.data = .fields vs) →
  PSs (X.suite a ((a, oe) :: pn)) st (fun Dd σ H => AtE i a σ ∧ tS X.K X.mg W0 [] (fun _ => .rt dd) Dd σ H)
theorem sel_c {X : Cx} {i : Nat} {a : Addr} {e : Expr} {dd : D} (h : PD X W0 e (cD dd)) : SelE X i a e dd := h.wk fun _ _ _ q => q.2
theorem sel_isi {X : Cx} {i : Nat} {a C Dc : Addr} {oe : Obj} {pn : List (Addr × Obj)} {b : Bool} {n x : Str} {p p2 p3 p4 : Pos} (hE : ExcC X.K Dc) (hz : Zc (.ref Dc) none oe) (hf : ∃ vs, oe.data = .fields vs) (hk : PySem.W.kitOne X.K (.ref Dc) (.ref C) = some b)
    (hi : X.N[i]? = some n) (hln : Vis X.env.scope n) (hmx : X.mg x = some (.ref C)) (hm : X.mg "isinstance" = none) (hg : Gl X "isinstance") (hgx : Gl X x)
    (hdx : (x == ("__debug__" : Str)) = false) (hdn : (n == ("__debug__" : Str)) = false) (hcn : (n == ("__classdict__" : Str)) = false)
    (he : starEach [.Name n p2, .Name x p3] X.env = (false, eval (.Name n p2) X.env) :: starEach [.Name x p3] X.env := by rfl) (he2 : starEach [.Name x p3] X.env = (false, eval (.Name x p3) X.env) :: starEach [] X.env := by rfl)
    (hpl : (backTo p4 (starEach [.Name x p3] X.env)).any (·.1) = false := by rfl) :
    PT (X.suite a ((a, oe) :: pn)) (.Call (.Name "isinstance" p) [.Name n p2, .Name x p3] [] p4) (fun σ H Q => AtE i a σ ∧ Q b H) := by
  have hN : (X.suite a ((a, oe) :: pn)).N[i]? = some n := hi
  have h1 := pt_val (pe_callB (X := X.suite a ((a, oe) :: pn)) (pos := p4) (p := p) (x := "isinstance") (call_isE (pn := pn) hE hz hf) hg hm PyProof.Rows.boot_isinstance
    (pa_cons (pe_var (pos := p2) hN hln hdn hcn) (pa_cons (pe_glob (v := .ref C) (pos := p3) hgx hmx rfl hdx) pa_nil he2) he) (by decide) (by decide) he hpl)
  refine ⟨fun pins s σ H Q I h => h1.run pins s σ H Q I ?_⟩
  obtain ⟨⟨σ0, rfl⟩, q⟩ := h
  have hl : i < σ0.length := by
    have := I.len
    rw [List.length_set] at this
    rw [this]
    rcases Nat.lt_or_ge i X.N.length with z | z
    · exact z
    · rw [List.getElem?_eq_none z] at hi; cases hi
  exact ⟨.ref a, List.getElem?_set_self hl, .ref C, .ref C, b, rfl, fun u z => z, hk, b, rfl, q⟩
theorem pe_nv {X : Cx} {e : Expr} : PE X e (fun _ _ _ => False) := ⟨fun _ _ _ _ _ _ h => h.elim⟩
theorem sel_t {X : Cx} {i : Nat} {a : Addr} {c A B : Expr} {pos : Pos} {dd : D} (hc : PT X c (fun σ H Q => AtE i a σ ∧ Q true H)) (hA : SelE X i a A dd) : SelE X i a (.IfExp c A B pos) dd :=
  (pe_ifExp hc hA (pe_nv (e := B))).wk fun σ H Q q => ⟨q.1, by dsimp only; rw [if_pos rfl]; exact q⟩
theorem sel_f {X : Cx} {i : Nat} {a : Addr} {c A B : Expr} {pos : Pos} {dd : D} (hc : PT X c (fun σ H Q => AtE i a σ ∧ Q false H)) (hB : SelE X i a B dd) : SelE X i a (.IfExp c A B pos) dd :=
  (pe_ifExp hc (pe_nv (e := A)) hB).wk fun σ H Q q => ⟨q.1, by dsimp only; rw [if_neg Bool.false_ne_true]; exact q⟩
theorem sel_ret {X : Cx} {i : Nat} {e : Expr} {pos : Pos} {c : Value} {dd : D} (h : ∀ (a : Addr) (oe : Obj) (pn : List (Addr × Obj)), Zc c none oe → (∃ vs, oe.data = .fields vs) → SelE (X.suite a ((a, oe) :: pn)) i a e dd) : SelS X i [.Return (some e) pos] c dd :=
  fun a oe pn hz hf => pss_one ((ps_ret (h a oe pn hz hf)).wk fun Dd σ H ⟨q1, G0, H0, G, ρ, ok, q⟩ => ⟨q1, outE (k := fun d => .rt d) (Q1 := Dd.rt) (W := W0) (wr := []) (show PostS X.K X.mg W0 G0 H0 [] σ ρ G ((cD dd ρ).out ρ fun d => .rt d) Dd from q) ok
    fun d v G1 H1 _ e1 r1 ok1 q1 => q1 v G1 H1 ok1.ext r1⟩)
/-- a clause's part -/
abbrev CL := List ((Value → Option Bool) × Nat × List Stmt)
def tSl (X : Cx) (i : Nat) (st : List Stmt) : Addr → Value → Option Addr → TS := fun a cls d Dd σ H => d = none ∧ AtE i a σ ∧ ∃ dd, SelS X i st cls dd ∧ tS X.K X.mg W0 [] (fun _ => .rt dd) Dd σ H
def clsL (X : Cx) : CL → List ((Value → Option Bool) × (Addr → Value → Option Addr → TS))
  | [] => []
  | (f, i, st) :: r => (f, tAs i (tSl X i st)) :: clsL X r
inductive CSel (X : Cx) : List ExceptHandler → CL → Prop
  | nil : CSel X [] []
  | cons {t : Expr} {n : Str} {i : Nat} {f : Value → Option Bool} {b₀ : Stmt} {suite : List Stmt} {pos' : Pos} {hds : List ExceptHandler} {l : CL} (ht : TestT X t f) (r : CSel X hds l) (hi : X.N[i]? = some n := by rfl) (hln : X.env.kindOf n = some .local := by rfl) :
      CSel X (.ExceptHandler (some t) (some n) (b₀ :: suite) pos' :: hds) ((f, i, b₀ :: suite) :: l)
theorem CSel.ok {X : Cx} {hds : List ExceptHandler} {l : CL} (h : CSel X hds l) : ClsOk X hds (clsL X l) := by
  induction h with
  | nil => exact .nil
  | cons ht r hi hln ih =>
    exact .as ht hi hln (fun a oe cls d pn hz hf => ⟨fun pins s σ H D I h => by
      obtain ⟨rfl, e, dd, hP, q⟩ := h
      exact (hP a oe pn hz hf).run pins s σ H D I ⟨e, q⟩⟩) ih
inductive Hit (X : Cx) (c : Value) (dd : D) : CL → Prop
  | here {f : Value → Option Bool} {i : Nat} {st : List Stmt} {r : CL} (h : f c = some true) (s : SelS X i st c dd) : Hit X c dd ((f, i, st) :: r)
  | next {f : Value → Option Bool} {i : Nat} {st : List Stmt} {r : CL} (h : f c = some false) (t : Hit X c dd r) : Hit X c dd ((f, i, st) :: r)
theorem StOk.cut {K : PySem.W.Frag} {G0 H0 G H : Hp} {σ : L2.St} {ρ : EnvS} (ok : StOk K G0 H0 G H σ ρ) (i : Nat) (v : V) : StOk K G0 H0 G H (σ.set i (some v)) (ρ.set i none) := by
  refine ⟨ok.ext, by rw [List.length_set, List.length_set]; exact ok.len, ⟨fun j e h => ?_, fun j ds h => ?_, by rw [List.length_set, List.length_set]; exact ok.len⟩, fun j ds p h h' => ?_, fun j l ds es p hne h1 h2 h3 h4 => ?_⟩
  · rcases get_set h with ⟨rfl, e1, hl⟩ | ⟨hj, h⟩
    · cases e1
    · rw [List.getElem?_set_ne (Ne.symm hj)]; exact ok.env.pu j e h
  · rcases get_set h with ⟨rfl, e1, hl⟩ | ⟨hj, h⟩
    · cases e1
    · rw [List.getElem?_set_ne (Ne.symm hj)]; exact ok.env.ow j ds h
  · rcases get_set h with ⟨rfl, e1, hl⟩ | ⟨hj, h⟩
    · cases e1
    · rw [List.getElem?_set_ne (Ne.symm hj)] at h'; exact ok.own j ds p h h'
  · rcases get_set h1 with ⟨rfl, e1, hl⟩ | ⟨hj, h1⟩
    · cases e1
    rcases get_set h2 with ⟨rfl, e1, hl⟩ | ⟨hl, h2⟩
    · cases e1
    rw [List.getElem?_set_ne (Ne.symm hj)] at h3
    rw [List.getElem?_set_ne (Ne.symm hl)] at h4
    exact ok.inj j l ds es p hne h1 h2 h3 h4
theorem Hit.wish {X : Cx} {W : WX} {c : Value} {dd : D} {l : CL} (h : Hit X c dd l) {G0 H0 G H : Hp} {σ : L2.St} {ρ : EnvS} (ok : StOk X.K G0 H0 G H σ ρ) {Dd : Ends} (q : ∀ v G' H', Ext G0 H0 G' H' → Rp X.K G' v dd → Dd.rt v H') : wCls W Dd (clsL X l) c none σ H := by
  induction h with
  | here h s =>
    exact ⟨true, h, fun _ a na => ⟨rfl, ⟨σ, rfl⟩, dd, s, G0, H0, G, _, ok.cut _ _, q⟩, fun z => nomatch z⟩
  | next h t ih => exact ⟨false, h, fun z => (nomatch z), fun _ => ih⟩
theorem lkpR_mem {tb : List (Str × D)} {x : Str} {d : D} (h : lkpR tb x = some d) : (x, d) ∈ tb := by
  induction tb with
  | nil => cases h
  | cons p r ih =>
    unfold lkpR at h
    split at h
    · rename_i e
      cases h
      rw [e]
      exact List.mem_cons_self
    · exact List.mem_cons_of_mem _ (ih h)
section
variable {X : Cx} {W : WX} {wr : List Nat} {pos : Pos}
theorem s_tryR {tb : List (Str × D)} {body : List Stmt} {h₀ : ExceptHandler} {hds : List ExceptHandler} {g : EnvS → Out} {l : CL} (tk : Takes X W)
    (hb : ∀ (W' : WX) (pn : List (Addr × Obj)) (xe : Value → Shared → Prop), Takes (X.tr pn xe) W' → PassesOwn (model X.prog X.w) X.A X.env xe → PSsD (X.tr pn xe) W' wr body g) (hh : CSel X (h₀ :: hds) l)
    (hT : ∀ x d, (x, d) ∈ tb → ∀ c, X.mg x = some c → Hit X c d l)
    (hs : X.stack = X.env :: X.outer := by rfl) (hf : X.env.frame = some X.env.locals := by rfl) (hN : X.N.Nodup := by decide) : PSD X W wr (.Try body (h₀ :: hds) [] [] pos) (tryR tb g) :=
  (ps_try_cls (tb := fun W' => tS X.K X.mg W' wr g) hs hf hN tk (fun W' pn xe t p => hb W' pn xe t p) hh.ok).wk fun Dd σ H ⟨G0, H0, G, ρ, ok, q⟩ => by
    refine ⟨G0, H0, G, ρ, ok, ?_⟩
    unfold tryR at q
    cases eg : g ρ with
    | nx ρ2 => rw [eg] at q; exact q
    | rt d => rw [eg] at q; exact q
    | bk ρ2 => rw [eg] at q; exact q
    | ct ρ2 => rw [eg] at q; exact q
    | ex x ρ1 =>
      rw [eg] at q
      dsimp only at q
      cases el : lkpR tb x with
      | none => rw [el] at q; exact q.elim
      | some d =>
        rw [el] at q
        exact fun c σ' G' H' m ok' sg fr => (hT x d (lkpR_mem el) c m).wish ok' q
    | no => rw [eg] at q; exact q
end
theorem hT_nil {X : Cx} {l : CL} : ∀ x d, (x, d) ∈ ([] : List (Str × D)) → ∀ c, X.mg x = some c → Hit X c d l := fun _ _ h => nomatch h
theorem hT_cons {X : Cx} {l : CL} {y : Str} {d0 : D} {tb : List (Str × D)} {c0 : Value} (hm : X.mg y = some c0) (h : Hit X c0 d0 l) (r : ∀ x d, (x, d) ∈ tb → ∀ c, X.mg x = some c → Hit X c d l) :
    ∀ x d, (x, d) ∈ (y, d0) :: tb → ∀ c, X.mg x = some c → Hit X c d l := fun x d h' c hc => by
  rcases List.mem_cons.mp h' with e | h'
  · cases e
    cases hm.symm.trans hc
    exact h
  · exact r x d h' c hc
end TD

/-! TdSdc: a dict comprehension whose keys are pairs of ints, sorted. -/
namespace TD
open PySem PySem.Spec PyProof.Rows L2
/-- the dict at D, the tuples themselves not told -/
def DI (P : Program) (w : World) (D : Addr) (xs : List (List Int × Addr × Value)) : Heap → Prop := fun h => (D == sysModules) = false ∧ ∃ o es ep, h.get? D = some o ∧ o.ExactDict ∧ o.data = .dict es ep ∧
  es.toList = xs.map (entryOfKey (tupleKind (intKind P w))) ∧ (xs.map (·.1)).Nodup
def DO (P : Program) (w : World) (D : Addr) (xs : List (List Int × Addr × Value)) : HO := .ext (DI P w D xs)
section
variable {P : Program} {w : World} {D : Addr} {xs : List (List Int × Addr × Value)} {h : Heap}
theorem do_new {H : Hp} (R : DI P w D xs h) : ObjOk P w H h D (DO P w D xs) := by
  obtain ⟨lo, o, es, ep, ho, h2, h3, h4, h5⟩ := id R
  refine ⟨R, ⟨o, ho⟩, fun h1 h2 p k => ?_⟩
  obtain ⟨lo', o', es', ep', ho', q⟩ := p
  exact ⟨lo', o', es', ep', k o' ho', q⟩
theorem do_empty {H : Hp} (h : Heap) (hb : sysModules < h.objs.size) : ObjOk P w H (h.push { cls := .type "dict", data := .dict #[] }) h.objs.size (DO P w h.objs.size []) :=
  do_new ⟨beq_eq_false_iff_ne.mpr (Ne.symm (Nat.ne_of_lt hb)), _, #[], 0, Heap.get?_push_size _ rfl, ⟨rfl, rfl, rfl⟩, rfl, rfl, List.nodup_nil⟩
theorem DI.full (R : DI P w D xs h) (ht : ∀ x ∈ xs, IsT P w h x.1 x.2.1) : h.DictOfH (tupleKind (intKind P w)) D xs := by
  obtain ⟨lo, o, es, ep, ho, h2, h3, h4, h5⟩ := R
  exact ⟨o, es, ep, ho, h2, h3, h4, ht, h5⟩
end
theorem dx_dictSet {X : Cx} {pins : List (Addr × Obj)} {σ : L2.St} {H : Hp} {s : Shared} {E : Value → Shared → Prop} {D b : Addr} {xs : List (List Int × Addr × Value)} {k : List Int} {u r : Value} {Q : Unit → Shared → Prop} (hu : X.A.units < cLine) (I : Inv X pins σ H s)
    (hD : H D = some (DO X.prog X.w D xs)) (hz : xs.length < sizeLine) (hk : SqT X.K H b (k.map V.int)) (hx : ∀ x ∈ xs, SqT X.K H x.2.1 (x.1.map V.int)) (ry : RelV (.ref b) u) (h : ∀ s', Inv X pins σ (upd H D (DO X.prog X.w D (storedH xs k b r))) s' → Q () s') :
    wpAny (model X.prog X.w) X.A (dictSet D u r) Q E s := by
  cases (show u = Value.ref b from ry)
  have R0 : DI X.prog X.w D xs s.heap := (show ObjOk X.prog X.w H s.heap D (DO X.prog X.w D xs) from I.hok D _ hD).1
  have lo := R0.1
  refine wpAny_dictSet_heap (hsz := Nat.le_of_lt hz) (knd := tupleKind (intKind X.prog X.w)) hu (I.isT hk) (R0.full fun x hm => I.isT (hx x hm)) fun h' dd' hs => h _ ?_
  obtain ⟨o, es, ep, ho, h2, h3, h4, _, h5⟩ := dd'
  exact d_write I (by rw [hD]; exact True.intro) hs ⟨o, ho⟩ (do_new ⟨lo, o, es, ep, ho, h2, h3, h4, h5⟩)
section
variable {X : Cx}
/-- {k: v for target in iter if ..}, keys tuples of ints: D the new dict -/
def tDcx (X : Cx) (wi : TI) (g : TG) (tt : TT) (tk tv : TE) (vs : List Nat) : TE := fun σ H Q => wi σ H fun J H1 => ∀ D, H1 D = none → ∃ W : Nat → Nat → Hp → Prop, (∃ m, W 0 m (upd H1 D (DO X.prog X.w D []))) ∧ ∀ i m H, W i m H →
  (J.stop i H ∧ Q (.ref D) H) ∨ (J.go i H ∧ ∃ Nx : Hp → Prop, (∀ H', Nx H' → ∃ m', m' < m ∧ W (i + 1) m' H') ∧ ∀ x H', J.yld i H x H' → g x (wipe σ vs) H' fun σ2 H2 => wipe σ2 vs = wipe σ vs ∧ tt σ2 H2 fun b H3 =>
    if b = true then tk σ2 H3 fun y H4 => tv σ2 H4 fun z H5 => ∃ (xs : List (List Int × Addr × Value)) (k : List Int) (b : Addr), y = .ref b ∧ SqT X.K H5 b (k.map V.int) ∧ (∀ x ∈ xs, SqT X.K H5 x.2.1 (x.1.map V.int)) ∧ H5 D = some (DO X.prog X.w D xs) ∧ xs.length < sizeLine ∧
      ∀ r, RelV z r → Nx (upd H5 D (DO X.prog X.w D (storedH xs k b r))) else Nx H3)
theorem dcx_core {pins : List (Addr × Obj)} {s : Shared} {σ : L2.St} {H : Hp} {Q : VK} {kx vx tg iter : Expr} {ifs : List Expr} {scope : Scope} {own : List (Str × Nat)} {pos pos' : Pos} {wi : TI} {g : TG} {tt : TT} {tk tv : TE} {use : Option (Value → Sem Unit)} {Qf : Value → Shared → Prop}
    (hu : X.A.units < cLine) (hc : X.calm = true) (hN : X.N.Nodup) (I : Inv X pins σ H s) (hi : PI X tg iter wi) (ok : BlkOk X.N X.env.scope scope own)
    (hg : ∀ (s : Shared) (H : Hp) (C : Addr) (cl : List (Str × Addr)) (fp : List Addr), PG (X.blk s H scope (compEnvC scope cl C X.env) fp) tg g) (ht : ∀ (s : Shared) (H : Hp) (C : Addr) (cl : List (Str × Addr)) (fp : List Addr), PTs (X.blk s H scope (compEnvC scope cl C X.env) fp) ifs tt)
    (hk : ∀ (s : Shared) (H : Hp) (C : Addr) (cl : List (Str × Addr)) (fp : List Addr), PE (X.blk s H scope (compEnvC scope cl C X.env) fp) kx tk)
    (he : ∀ (s : Shared) (H : Hp) (C : Addr) (cl : List (Str × Addr)) (fp : List Addr), PE (X.blk s H scope (compEnvC scope cl C X.env) fp) vx tv) (hs : ∀ x, foldedSetIterable iter X.env x = pure x)
    (h : tDcx X wi g tt tk tv (own.map (·.2)) σ H Q)
    (hRR : ∀ D C s' m H', Inv X pins σ H' s' → Q (.ref D) H' → s'.heap.Ns C m → FpOk X pins H' C → compPost (model X.prog X.w) X.A X.xe use Qf (.ref D) C (.ok .next) s') :
    wpAny (model X.prog X.w) X.A (comprehension (.DictComp kx vx [⟨tg, iter, ifs, 0⟩] scope pos) scope X.env pos' newDict false (eval iter X.env) use) Qf X.xe s := by
  have hfree : ∀ y ∈ scope.names, y.2 = .free → ∃ c, X.env.cells.lookup y.1 = some c := fun y hy e => by
    rcases ok.free y hy e with k | k
    · exact I.ok.has _ (.inl k)
    · exact I.ok.has _ (.inr k)
  refine wpAny_comprehension_free (use := use) rfl hs (closure_ok hfree) ok.kind (fun y hy e => by rw [ok.uniq y hy, e])
    (thn (hi.run pins s σ H _ I h) fun xv s1 hx => thn hx fun itv s2 h2 => ?_)
  obtain ⟨it, fp, tn, J, H2, e, I2, T, st2, f2, q⟩ := h2
  subst e
  refine wpAny_newObj_type (newEnv_comp ?_)
  generalize hD : s2.heap.objs.size = D
  have hDn : H2 D = none := I2.hok.fresh (Nat.le_of_eq hD)
  obtain ⟨W, ⟨m0, w0⟩, turn⟩ := q D hDn
  -- the new list
  generalize hs3 : ({ s2 with heap := s2.heap.push { cls := .type "dict", data := .dict #[] } } : Shared) = s3
  have I3 : Inv X pins σ (upd H2 D (DO X.prog X.w D [])) s3 := by
    rw [← hs3]
    refine I2.laid (t' := s2.toks) (fun b o e => Heap.get?_push_of_some _ e) (Nat.le_of_eq hD) ?_
    rw [← hD]
    exact do_empty s2.heap I2.big
  have h3 : s3.heap = s2.heap.push { cls := .type "dict", data := .dict #[] } := by rw [← hs3]
  have sz : ∀ b ∈ fp, b < s2.heap.objs.size := fun b hb => by
    obtain ⟨o, e, _⟩ := T.obj _ _ st2 b hb
    exact Heap.lt_size e
  have f3 : ∀ b ∈ fp, FpOk X pins (upd H2 D (DO X.prog X.w D [])) b ∧ b < s3.heap.objs.size := fun b hb => by
    have hlt := sz b hb
    refine ⟨⟨?_, (f2 b hb).2⟩, by rw [h3, Heap.size_push]; exact Nat.lt_succ_of_lt hlt⟩
    rw [upd_ne (by rw [← hD]; exact Nat.ne_of_lt hlt)]
    exact (f2 b hb).1
  have st3 : tn 0 s3.heap := T.keep _ _ _ st2 fun b _ o e => by rw [h3]; exact Heap.get?_push_of_some _ e
  have I4 := block_start I3 ok hN f3
  have pg := hg s3 (upd H2 D (DO X.prog X.w D [])) s3.heap.objs.size (cellsFrom (s3.heap.objs.size + 1) scope.names (cloFrom X.env.cells scope.names [])) fp
  have pt := ht s3 (upd H2 D (DO X.prog X.w D [])) s3.heap.objs.size (cellsFrom (s3.heap.objs.size + 1) scope.names (cloFrom X.env.cells scope.names [])) fp
  have pk := hk s3 (upd H2 D (DO X.prog X.w D [])) s3.heap.objs.size (cellsFrom (s3.heap.objs.size + 1) scope.names (cloFrom X.env.cells scope.names [])) fp
  have pe := he s3 (upd H2 D (DO X.prog X.w D [])) s3.heap.objs.size (cellsFrom (s3.heap.objs.size + 1) scope.names (cloFrom X.env.cells scope.names [])) fp
  show codeAny _ _ (.compStart (.DictComp kx vx [⟨tg, iter, ifs, 0⟩] scope pos) 0 (.ref it) (.ref D) (compEnvC scope (cellsFrom (s3.heap.objs.size + 1) scope.names (cloFrom X.env.cells scope.names [])) s3.heap.objs.size X.env)) (compPost (model X.prog X.w) X.A X.xe use Qf (.ref D) s3.heap.objs.size) { s3 with heap := pushCells (s3.heap.push { cls := .type "dict", data := .dict #[] }) scope.names }
  have nfp : ∀ b ∈ fp, (upd H2 D (DO X.prog X.w D [])) b = none := fun b hb => (f3 b hb).1.1
  generalize hce : compEnvC scope (cellsFrom (s3.heap.objs.size + 1) scope.names (cloFrom X.env.cells scope.names [])) s3.heap.objs.size X.env = ce at I4 pg pt pk pe ⊢
  have cL : ce.locals = s3.heap.objs.size := by subst hce; rfl
  generalize hH3 : upd H2 D (DO X.prog X.w D []) = H3 at I3 I4 pg pt pk pe w0 nfp f3
  generalize hs4 : ({ s3 with heap := pushCells (s3.heap.push { cls := .type "dict", data := .dict #[] }) scope.names } : Shared) = s4 at I4 ⊢
  have st4 : tn 0 s4.heap := T.keep _ _ _ st3 fun b _ o e => by rw [← hs4]; exact pushCells_keeps _ _ _ _ (Heap.get?_push_of_some _ e)
  have stat : ∀ {σ' : L2.St} {H' : Hp} {s' : Shared}, Inv (X.blk s3 H3 scope ce fp) [] σ' H' s' → (∀ b ∈ fp, H' b = none) → ∀ b ∈ fp, FpOk (X.blk s3 H3 scope ce fp) [] H' b := fun {σ' H' s'} I' hn b hb =>
    ⟨hn b hb, (I'.ok.exf b hb).1, I'.ok.exfs b hb, .inl hb, fun x c e => (I'.ok.exf b hb).2 x c e, fun p hp => absurd (show p ∈ ([] : List (Addr × Obj)) ++ [] from hp) (by simp)⟩
  have loop : codeAny (model X.prog X.w) X.A (.compLoop (.DictComp kx vx [⟨tg, iter, ifs, 0⟩] scope pos) 0 (.ref it) (.ref D) ce) (compPost (model X.prog X.w) X.A X.xe use Qf (.ref D) s3.heap.objs.size) s4 := by
    refine compLoop_anyD (fun n s' => ∃ i H', Inv (X.blk s3 H3 scope ce fp) [] (wipe σ (own.map (·.2))) H' s' ∧ tn i s'.heap ∧ (∀ b ∈ fp, H' b = none) ∧ W i n H') ?_ m0 ⟨0, H3, I4, st4, nfp, w0⟩
    rintro n s5 ⟨i, H5, I5, st5, n5, w5⟩
    rcases turn i n H5 w5 with ⟨stop, qq⟩ | ⟨go, Nx, hNx, step⟩
    · have td := T.done (X.blk s3 H3 scope ce fp) rfl rfl rfl hc i [] s5 _ H5 (fun _ _ => False) I5 (stat I5 n5) st5 stop
      refine thnF td fun r s6 ⟨hr, I6⟩ => ?_
      subst hr
      -- back in the def's context
      have I7 : Inv X pins σ H5 s6 := I3.call' (ch := fp) I6.os I6.base I6.hok I6.bare fun b hb => ⟨(f3 b hb).1.2.2.2.1, (f3 b hb).1.2.1, (f3 b hb).1.2.2.2.2.1, (f3 b hb).1.2.2.2.2.2⟩
      have nC : H5 s3.heap.objs.size = none := by
        have z : H5 ce.locals = none := I6.free
        rw [cL] at z
        exact z
      obtain ⟨m, hn, _⟩ := I6.loc
      have hn : s6.heap.Ns ce.locals m := hn
      rw [cL] at hn
      exact hRR D s3.heap.objs.size s6 m H5 I7 qq hn (I3.fpOk (Nat.le_refl _) nC)
    · have ti := T.item (X.blk s3 H3 scope ce fp) rfl rfl rfl hc i [] s5 _ H5 (fun _ _ => False) I5 (stat I5 n5) st5 go
      refine thnF ti fun r s6 ⟨u, hr, h6⟩ => ?_
      subst hr
      refine thnF h6 fun _ s7 ⟨x, H7, I7, r7, y7, st7, n7⟩ => ?_
      have I7' := I7.pinned (stat I7 n7) (T.obj _ _ st7)
      refine thnF (pg.run _ s7 _ H7 x u _ I7' r7 (step x H7 y7)) fun _ s8 ⟨σ8, H8, I8, hw8, q8⟩ => ?_
      refine thnF (pt.run _ s8 σ8 H8 _ I8 q8) fun b s9 ⟨H9, I9, q9⟩ => ?_
      -- the turn's end
      have fin : ∀ {s' : Shared} {H' : Hp}, Inv (X.blk s3 H3 scope ce fp) ([] ++ pinsAt fp s7.heap) σ8 H' s' → Nx H' → ∃ m, m < n ∧ ∃ i H', Inv (X.blk s3 H3 scope ce fp) [] (wipe σ (own.map (·.2))) H' s' ∧ tn i s'.heap ∧ (∀ b ∈ fp, H' b = none) ∧ W i m H' := fun {s' H'} I' nx => by
        obtain ⟨m', hm, w'⟩ := hNx H' nx
        have pin' : ∀ b ∈ fp, ∀ o, s7.heap.get? b = some o → s'.heap.get? b = some o ∧ H' b = none := fun b hb o e =>
          let z := I'.pin (b, o) (List.mem_append_right _ (List.mem_append_right _ (mem_pinsAt hb e)))
          ⟨z.1, z.2.1⟩
        have hl : (wipe σ (own.map (·.2))).length = σ8.length := by rw [← hw8, wipe_length]
        refine ⟨m', hm, i + 1, H', (I'.unpinned (pins := [])).weak hl (fun j v e => ?_), T.keep _ _ _ st7 fun b hb o e => (pin' b hb o e).1, fun b hb => ?_, w'⟩
        · rw [← hw8] at e
          exact (wipe_some e).1
        · obtain ⟨o, e, _⟩ := T.obj _ _ st7 b hb
          exact (pin' b hb o e).2
      cases b with
      | false =>
        simp only [Bool.false_eq_true, if_false] at q9 ⊢
        exact fin I9 q9
      | true =>
        simp only [if_true] at q9 ⊢
        refine thnF (pk.run _ s9 σ8 H9 _ I9 q9) fun z s10 ⟨yk, H10, I10, r10, q10⟩ => ?_
        refine thnF (pe.run _ s10 σ8 H10 _ I10 q10) fun z2 s11 ⟨yv, H11, I11, r11, xs, k, b, ek, hk11, hx11, hD11, hz11, nx⟩ => ?_
        subst ek
        exact dx_dictSet (X := X.blk s3 H3 scope ce fp) hu I11 hD11 hz11 hk11 hx11 r10 fun s12 I12 => fin I12 (nx _ r11)
  exact codeAny_compStart_dict loop (T.self X.A 0 _ _ _ st4 loop)
theorem pe_dcx {kx vx tg iter : Expr} {ifs : List Expr} {scope : Scope} {own : List (Str × Nat)} {pos : Pos} {wi : TI} {g : TG} {tt : TT} {tk tv : TE} (hu : X.A.units < cLine) (hc : X.calm = true) (hN : X.N.Nodup) (hi : PI X tg iter wi) (ok : BlkOk X.N X.env.scope scope own)
    (hg : ∀ (s : Shared) (H : Hp) (C : Addr) (cl : List (Str × Addr)) (fp : List Addr), PG (X.blk s H scope (compEnvC scope cl C X.env) fp) tg g) (ht : ∀ (s : Shared) (H : Hp) (C : Addr) (cl : List (Str × Addr)) (fp : List Addr), PTs (X.blk s H scope (compEnvC scope cl C X.env) fp) ifs tt)
    (hk : ∀ (s : Shared) (H : Hp) (C : Addr) (cl : List (Str × Addr)) (fp : List Addr), PE (X.blk s H scope (compEnvC scope cl C X.env) fp) kx tk)
    (he : ∀ (s : Shared) (H : Hp) (C : Addr) (cl : List (Str × Addr)) (fp : List Addr), PE (X.blk s H scope (compEnvC scope cl C X.env) fp) vx tv) (hs : ∀ x, foldedSetIterable iter X.env x = pure x := by intro _; rfl) :
    PE X (.DictComp kx vx [⟨tg, iter, ifs, 0⟩] scope pos) (tDcx X wi g tt tk tv (own.map (·.2))) := by
  refine ⟨fun pins s σ H Q I h => ?_⟩
  rw [arm_eval_DictComp]
  refine dcx_core hu hc hN I hi ok hg ht hk he hs h fun D C s' m H' I' q hn f => ⟨m, hn, fun h'' sb => ?_⟩
  obtain ⟨f0, f1, f2, f3, f4, f5⟩ := f
  exact ⟨.ref D, H', I'.turned (t' := s'.toks) (fun b o hb e => (sb.2 b hb).trans e) f0 f1 f3 f4 f5, rfl, q⟩
end

/-! ### sorted of such a dict -/
def prL (x : List Int × Addr × Value) : Int × Int := match x.1 with
  | [a, b] => (a, b)
  | _ => (0, 0)
def rSortedX (X : Cx) : List V → Hp → VK → Prop := fun vs H Q => ∃ (D : Addr) (xs : List (List Int × Addr × Value)), vs = [V.ref D] ∧ H D = some (DO X.prog X.w D xs) ∧ (∀ x ∈ xs, ∃ z : Int × Int, x.1 = [z.1, z.2]) ∧ (∀ x ∈ xs, SqT X.K H x.2.1 (x.1.map V.int)) ∧ xs.length ≤ sizeLine ∧
  ∀ (k : V → Int × Int) (ys : List V) (p : Addr), (∀ x ∈ xs, k (.ref x.2.1) = prL x) → SrtO.Srtd (ltP k) ys → ys.Perm (xs.map fun x => V.ref x.2.1) → H p = none → Q (.ref p) (upd H p (.lst ys))
theorem vals_rf : ∀ (xs : List (List Int × Addr × Value)), Vals (xs.map fun x => V.ref x.2.1) (xs.map fun x => Value.ref x.2.1)
  | [] => .nil
  | x :: xs => .cons rfl (vals_rf xs)
section
variable {X : Cx}
open Classical in
theorem cr_sortedX (hcalm : X.calm = true) : CallR X (.builtin "sorted") (rSortedX X) := by
  intro pins s σ H vs us Q I r h
  obtain ⟨D, xs, rfl, hD, hz, hx, hl, q⟩ := h
  obtain ⟨u, rfl, ru⟩ := vals1 r
  obtain rfl : u = Value.ref D := ru
  have R0 : DI X.prog X.w D xs s.heap := (show ObjOk X.prog X.w H s.heap D (DO X.prog X.w D xs) from I.hok D _ hD).1
  obtain ⟨lo, o, es, ep, ho, h2, h3, h4, h5⟩ := R0
  have l1 : es.size = xs.length := size_of_entries h4
  let k : V → Int × Int := fun x => if h : ∃ z : Int × Int, ∃ t, x = V.ref t ∧ SqT X.K H t [.int z.1, .int z.2] then Classical.choose h else (0, 0)
  have hk : ∀ x ∈ xs, k (.ref x.2.1) = prL x := fun x hm => by
    obtain ⟨z, ez⟩ := hz x hm
    have ht := hx x hm
    rw [ez] at ht
    have ex : ∃ z : Int × Int, ∃ t', V.ref x.2.1 = V.ref t' ∧ SqT X.K H t' [.int z.1, .int z.2] := ⟨z, x.2.1, rfl, ht⟩
    have e : k (.ref x.2.1) = Classical.choose ex := dif_pos ex
    obtain ⟨t', e1, e2⟩ := Classical.choose_spec ex
    cases e1
    have e3 := I.tuple_inj e2 ht
    rw [e]
    unfold prL
    rw [ez]
    injection e3 with e4 e5
    injection e5 with e6 _
    injection e4 with e4
    injection e6 with e6
    exact Prod.ext e4 e6
  refine Calls.call_function_entry PyProof.Rows.kind_sorted PyProof.Rows.plain_sorted PyProof.Rows.entry_sorted (PyProof.Rows.args_sorted1 _) ?_
  unfold Builtin.«sorted»
  refine wpAny_bind (m := checkCount "sorted" 1 1 _) (wpAny_pure ?_)
  refine wpAny_bind (PySem.W.kdu_collect (A := X.A.in1) (kdl_raw lo h2 h3) (I.ok.hd hcalm) ho (by omega) fun h' tk acc hkp hacc => ?_)
  have ea : acc.toList = xs.map fun x => Value.ref x.2.1 := by
    have hl2 : acc.toList.length = xs.length := by rw [Array.length_toList, hacc.1]; exact l1
    apply List.ext_getElem?
    intro j
    rw [List.getElem?_map]
    cases hj : acc.toList[j]? with
    | none =>
      have h1 := List.getElem?_eq_none_iff.mp hj
      rw [List.getElem?_eq_none (by omega)]
      rfl
    | some v =>
      obtain ⟨en, hen, hv⟩ := hacc.2 j v (by rw [← Array.getElem?_toList]; exact hj)
      have qe := entry_at h4 j
      rw [hen] at qe
      cases hb : xs[j]? with
      | none =>
        rw [hb] at qe
        exact nomatch (show some en = none from qe)
      | some b =>
        rw [hb] at qe
        have e2 : en = entryOfKey (tupleKind (intKind X.prog X.w)) b := Option.some.inj qe
        rw [hv, e2]
        rfl
  have hal : acc.toList.length = xs.length := by rw [ea, List.length_map]
  have I1 : Inv X pins σ H { s with heap := h', toks := tk } := I.kept hkp
  refine wpAny_bind (wpAny_newList ?_ (by rw [hal]; exact hl))
  have hoL : (h'.push (seqObj "list" acc.toList.toArray 0)).get? h'.objs.size = some (seqObj "list" acc.toList.toArray 0) := Heap.get?_push_size _ rfl
  show wpAny _ _ _ _ _ { s with heap := h'.push (seqObj "list" acc.toList.toArray 0), toks := tk }
  obtain ⟨e1, e2⟩ := refs_back (xs := xs.map fun x => V.ref x.2.1) (us := acc.toList) (by rw [ea]; exact vals_rf xs) fun x m => by
    obtain ⟨y, _, rfl⟩ := List.mem_map.mp m
    exact ⟨_, rfl⟩
  refine wpAny_bind (wpAny_holding (wpAny_call_entry PyProof.Rows.slot_list_sort ⟨_, hoL, rfl⟩ PyProof.Rows.entry_list_sort
    (SrtO.list_sort_ord (SrtO.swo_lex fun u => k (backV u)) hoL (by rw [hal]; exact hl) (fun hge => SrtO.pairs_sortableO (by omega) (fun v hv => ?_) fun o e => ?_) fun out hs hb => ⟨_, rfl, ?_⟩)
    (PyProof.Rows.args_list_sort _)))
  · rw [ea] at hv
    obtain ⟨x, hm, rfl⟩ := List.mem_map.mp hv
    obtain ⟨z, ez⟩ := hz x hm
    have ht := hx x hm
    rw [ez] at ht
    obtain ⟨its2, r2, ⟨ot, hot, hc, n, hd⟩, _⟩ := I1.tuple ht
    obtain ⟨u1, u2, rfl, ri, rj⟩ := vals2 r2
    obtain ⟨t1, rfl⟩ := ri
    obtain ⟨t2, rfl⟩ := rj
    have ek : k (backV (.ref x.2.1)) = z := by
      rw [show backV (.ref x.2.1) = V.ref x.2.1 from rfl, hk x hm]
      unfold prL
      rw [ez]
    rw [ek]
    exact ⟨x.2.1, ot, t1, t2, n, rfl, Heap.get?_push_of_some _ hot, hc, hd⟩
  · have e' : some o = some (seqObj "list" acc.toList.toArray 0) := e.symm.trans hoL
    cases e'
    intro c
    exact absurd (Value.type.inj c) (by decide)
  · have h3' : ∀ u ∈ out, ∃ a, u = Value.ref a := fun u hu => e2 u (hb.perm.mem_iff.mp hu)
    obtain ⟨e', he'⟩ := PyProof.Rows.sortedHeap_at (vs := acc.toList) (out := out.toArray) hoL
    have hperm : (out.map backV).Perm (xs.map fun x => V.ref x.2.1) := by rw [e1]; exact hb.perm.map backV
    refine wpAny_pure ⟨_, rfl, .ref h'.objs.size, upd H h'.objs.size (.lst (out.map backV)), I1.laid (t' := tk) (fun b u e => ?_) (Nat.le_refl _)
      (show ObjOk X.prog X.w _ _ _ (.lst (out.map backV)) from ⟨by rw [hperm.length_eq, List.length_map]; exact hl, out, e', vals_back h3', he'⟩), rfl, q k _ _ hk (SrtO.srtd_map hs) hperm (I1.hok.fresh (Nat.le_refl _))⟩
    have hb : b < h'.objs.size := Heap.lt_size e
    rw [PyProof.Rows.sortedHeap_old (Nat.ne_of_lt hb) (by rw [size_push']; exact Nat.lt_succ_of_lt hb)]
    exact Heap.get?_push_of_some _ e
end

/-! ### over data -/
def ddS (acc : List (Int × Int)) (p : Int × Int) : List (Int × Int) := if p ∈ acc then acc else acc ++ [p]
/-- each once, the first stays -/
def ddP (ps : List (Int × Int)) : List (Int × Int) := ps.foldl ddS []
def sdcR (ks : List D) : R (List D) := match pairsOf ks with
  | some ps => .ok ((sortP (ddP ps)).map prD2)
  | none => .no
def sdcL (g : EnvS → R (List D)) : EnvS → R (List D) := fun ρ => (g ρ).bind sdcR
def keyL (p : Int × Int) : List Int := [p.1, p.2]
theorem keyL_inj {p q : Int × Int} (h : keyL p = keyL q) : p = q := by
  unfold keyL at h
  injection h with h1 h2
  injection h2 with h2 _
  exact Prod.ext h1 h2
theorem stored_keys (xs : List (List Int × Addr × Value)) (k : List Int) (b : Addr) (r : Value) : (storedH xs k b r).map (·.1) = if k ∈ xs.map (·.1) then xs.map (·.1) else xs.map (·.1) ++ [k] := by
  by_cases h : (atKey xs k).isSome = true
  · obtain ⟨p, hp⟩ := Option.isSome_iff_exists.mp h
    rw [storedH_old hp, if_pos]
    · rw [List.map_map]
      refine List.map_congr_left fun x _ => ?_
      show (putAt k r x).1 = x.1
      unfold putAt
      split <;> rfl
    · unfold atKey at hp
      obtain ⟨x, hx, _⟩ := Option.map_eq_some_iff.mp hp
      have h1 := List.find?_some hx
      exact List.mem_map.mpr ⟨x, List.mem_of_find?_eq_some hx, of_decide_eq_true h1⟩
  · have hn : atKey xs k = none := by
      cases e : atKey xs k with
      | none => rfl
      | some p => rw [e] at h; exact absurd rfl h
    rw [storedH_new hn, if_neg]
    · rw [List.map_append]; rfl
    · intro hm
      obtain ⟨x, hx, e⟩ := List.mem_map.mp hm
      unfold atKey at hn
      have h2 := List.find?_eq_none.mp (Option.map_eq_none_iff.mp hn) x hx
      exact h2 (decide_eq_true e)
theorem stored_mem {xs : List (List Int × Addr × Value)} {k : List Int} {b : Addr} {r : Value} {x : List Int × Addr × Value} (h : x ∈ storedH xs k b r) : (∃ y ∈ xs, y.1 = x.1 ∧ y.2.1 = x.2.1) ∨ (x.1 = k ∧ x.2.1 = b) := by
  unfold storedH at h
  split at h
  · obtain ⟨y, hy, rfl⟩ := List.mem_map.mp h
    refine .inl ⟨y, hy, ?_⟩
    unfold putAt
    split <;> exact ⟨rfl, rfl⟩
  · rcases List.mem_append.mp h with h | h
    · exact .inl ⟨x, h, rfl, rfl⟩
    · rw [List.mem_singleton.mp h]; exact .inr ⟨rfl, rfl⟩
theorem stored_len (xs : List (List Int × Addr × Value)) (k : List Int) (b : Addr) (r : Value) : (storedH xs k b r).length ≤ xs.length + 1 := by
  unfold storedH
  split
  · rw [List.length_map]; omega
  · rw [List.length_append]; exact Nat.le_refl _
theorem dd_snoc (as : List (Int × Int)) (p : Int × Int) : ddP (as ++ [p]) = ddS (ddP as) p := by unfold ddP; rw [List.foldl_append]; rfl
theorem dd_keys {xs : List (List Int × Addr × Value)} {as : List (Int × Int)} (h : xs.map (·.1) = (ddP as).map keyL) (p : Int × Int) (b : Addr) (r : Value) : (storedH xs (keyL p) b r).map (·.1) = (ddP (as ++ [p])).map keyL := by
  rw [stored_keys, h, dd_snoc]
  unfold ddS
  by_cases hm : p ∈ ddP as
  · rw [if_pos (List.mem_map.mpr ⟨p, hm, rfl⟩), if_pos hm]
  · rw [if_neg, if_neg hm, List.map_append]
    · rfl
    · intro z
      obtain ⟨q, hq, e⟩ := List.mem_map.mp z
      rw [keyL_inj e] at hq
      exact hm hq
theorem pr_of {xs : List (List Int × Addr × Value)} {ps : List (Int × Int)} (h : xs.map (·.1) = ps.map keyL) : xs.map prL = ps := by
  have e : (xs.map (·.1)).map (fun l : List Int => match l with | [a, b] => (a, b) | _ => ((0 : Int), (0 : Int))) = ps := by
    rw [h, List.map_map]
    conv => rhs; rw [← List.map_id ps]
    exact List.map_congr_left fun p _ => rfl
  rw [List.map_map] at e
  exact e
theorem tDcx_of {X : Cx} {W : WX} {f : EnvS → R (List D)} {wr vs : List Nat} {h : D → EnvS → R EnvS} {fe : EnvS → R D} (hwr : ∀ i, i ∈ wr → i ∈ vs) {σ : L2.St} {H : Hp} {Q : VK}
    (q : tN X.K X.mg W (sdcL (lcF f h yesB fe vs)) σ H Q) : tDcx X (tJ X.K X.mg W f) (tG X.K wr h) (tD X.K X.mg W0 rpB yesB) (tD X.K X.mg W0 (rpE X.K) fe) (tC (.bl true)) vs σ H (fun v Hd => rSortedX X [v] Hd Q) := by
  obtain ⟨G, ρ, hs, he, q⟩ := q
  unfold sdcL lcF at q
  refine ⟨G, ρ, hs, he, ?_⟩
  cases ef : f ρ with
  | ex x => rw [ef] at q; exact q
  | no => rw [ef] at q; exact q
  | ok ds =>
    rw [ef] at q
    have q : PostN X.K (Wxo X.mg W σ) G H ((if lineOk ds.length then compO h yesB fe ds (wipeS ρ vs) else .no).bind sdcR) Q := q
    by_cases hline : lineOk ds.length = true
    · rw [if_pos hline] at q
      intro J G1 H1 e1 w L hL
      have he1 := he.up e1
      have q := PostN.fin.later _ _ _ _ _ q e1
      have nG1 : G1 L = none := e1.sub.free hL
      cases ec : compO h yesB fe ds (wipeS ρ vs) with
      | ex x =>
        exact absurd ec (by
          have : ∀ ds : List D, compO h yesB fe ds (wipeS ρ vs) ≠ .ex x := by
            intro ds
            induction ds with
            | nil => intro z; cases z
            | cons d r ih =>
              unfold compO
              intro z
              split at z
              · split at z
                · split at z
                  · split at z <;> cases z
                  · cases z
                · exact ih z
                · cases z
              · cases z
          exact this ds)
      | no => rw [ec] at q; exact q.elim
      | ok all =>
        rw [ec] at q
        have q : PostN X.K (Wxo X.mg W σ) G1 H1 (sdcR all) Q := q
        unfold sdcR at q
        cases ep : pairsOf all with
        | none => rw [ep] at q; exact q.elim
        | some ps =>
        rw [ep] at q
        have q : ∀ q' xs G' H', Ext G1 H1 G' H' → H1 q' = none → G' q' = none → H' q' = some (.lst xs) → RpAll X.K G' xs ((sortP (ddP ps)).map prD2) → Q (.ref q') H' := q
        have eps := pairsOf_some ep
        let Wv : Nat → Hp → Prop := fun i H' => ∃ G' xs as rest, Ext G1 H1 G' H' ∧ G' L = none ∧ H' L = some (DO X.prog X.w L xs) ∧ xs.map (·.1) = (ddP as).map keyL ∧ (∀ x ∈ xs, SqT X.K G' x.2.1 (x.1.map V.int)) ∧ xs.length ≤ i ∧ compO h yesB fe (ds.drop i) (wipeS ρ vs) = .ok rest ∧ all = as.map prD2 ++ rest
        refine ⟨fun i m H' => m = ds.length - i ∧ i ≤ ds.length ∧ Wv i H', ⟨ds.length, by omega, Nat.zero_le _, G1, [], [], all, Ext.newH e1.sub hL, nG1, upd_same, rfl, fun x hx => absurd hx List.not_mem_nil, Nat.le_refl _, ec, rfl⟩, ?_⟩
        rintro i m H' ⟨rfl, hi, G', xs, as, rest, e', nG', hL', hkeys, hsq, hacc, ec', eall⟩
        by_cases hlt : i < ds.length
        · have hd : ds[i]? = some ds[i] := List.getElem?_eq_getElem hlt
          refine .inr ⟨w.go i _ G' H' hd e', Wv (i + 1), fun H2 p2 => ⟨ds.length - (i + 1), by omega, rfl, hlt, p2⟩, fun x H3 hy => ?_⟩
          obtain ⟨G3, e3, r3⟩ := w.yld i _ x G' H' H3 hd e' hy
          have hdr : ds.drop i = ds[i] :: ds.drop (i + 1) := List.drop_eq_getElem_cons hlt
          rw [hdr] at ec'
          unfold compO at ec'
          have e13 := e'.trans e3
          have env3 := wipe_env (he1.up e13) vs
          have nL : ∀ {Ga Ha Gb Hb : Hp}, Ext Ga Ha Gb Hb → Ga L = none → Ha L = some (DO X.prog X.w L xs) → Gb L = none ∧ Hb L = some (DO X.prog X.w L xs) := fun {Ga Ha Gb Hb} ee z1 z2 => by
            refine ⟨?_, ee.hh _ _ z2⟩
            by_cases z : Gb L = none
            · exact z
            · rw [ee.fr L z1 z] at z2; cases z2
          obtain ⟨n3, h3⟩ := nL e3 nG' hL'
          cases eh : h ds[i] (wipeS ρ vs) with
          | ex x => rw [eh] at ec'; cases ec'
          | no => rw [eh] at ec'; cases ec'
          | ok ρ1 =>
            rw [eh] at ec'
            dsimp only [yesB] at ec'
            refine ⟨G3, wipeS ρ vs, ds[i], e3.sub, env3.len, env3, r3, ρ1, eh, fun σ1 p1 => ⟨wipe_wipe (by rw [p1.len', wipe_length]) fun j hj => (p1.fr j fun z => hj (hwr j z)).1, ?_⟩⟩
            refine ⟨G3, ρ1, e3.sub, p1.env, ?_⟩
            show Post rpB _ G3 H3 (.ok true) _
            intro v G4 H4 e4 rv
            cases rv
            obtain ⟨n4, h4⟩ := nL e4 n3 h3
            rw [if_pos rfl]
            refine ⟨G4, ρ1, e4.sub, p1.env.up e4, ?_⟩
            cases ee : fe ρ1 with
            | ex x => rw [ee] at ec'; cases ec'
            | no => rw [ee] at ec'; cases ec'
            | ok y =>
              rw [ee] at ec'
              intro v G5 H5 e5 r5
              obtain ⟨n5, h5⟩ := nL e5 n4 h4
              have e15 := (e13.trans e4).trans e5
              cases er : compO h yesB fe (ds.drop (i + 1)) (wipeS ρ vs) with
              | ex x => rw [er] at ec'; cases ec'
              | no => rw [er] at ec'; cases ec'
              | ok ys =>
                rw [er] at ec'
                cases ec'
                obtain ⟨p, -, hp⟩ : ∃ p ∈ ps, prD2 p = y := List.mem_map.mp (by rw [← eps, eall]; exact List.mem_append_right _ List.mem_cons_self)
                subst hp
                obtain ⟨b, zs, rfl, _, g1, p1'⟩ := Rp.seqT r5 e5.sub
                have ezs : zs = (keyL p).map V.int := by
                  cases p1' with
                  | cons a1 a2 => cases a2 with
                    | cons a3 a4 => cases a4; cases a1; cases a3; rfl
                subst ezs
                have old5 : ∀ x ∈ xs, SqT X.K G5 x.2.1 (x.1.map V.int) := fun x hx => TD.Same.seqT ((e3.gg.trans e4.gg).trans e5.gg) (hsq x hx)
                refine ⟨xs, keyL p, b, rfl, TD.Same.seqT e5.sub g1, fun x hx => TD.Same.seqT e5.sub (old5 x hx), h5, Nat.lt_of_le_of_lt hacc (Nat.lt_of_lt_of_le hlt (lineOk_le hline)), fun r _ => ?_⟩
                refine ⟨G5, storedH xs (keyL p) b r, as ++ [p], ys, ⟨fun b' o hb => ?_, fun b' o hb => ?_, e15.gg, e15.fr⟩, n5, upd_same, dd_keys hkeys p b r, fun x hx => ?_, by have := stored_len xs (keyL p) b r; omega, er, by rw [eall, List.map_append, List.append_assoc]; rfl⟩
                · rw [upd_ne (ne_of_none hb n5)]; exact e15.sub _ _ hb
                · rw [upd_ne (ne_of_none hb hL)]; exact e15.hh _ _ hb
                · rcases stored_mem hx with ⟨y, hy, e1, e2⟩ | ⟨e1, e2⟩
                  · rw [← e1, ← e2]; exact old5 y hy
                  · rw [e1, e2]; exact g1
        · have ei : i = ds.length := by omega
          subst ei
          rw [List.drop_length] at ec'
          cases ec'
          rw [List.append_nil] at eall
          have eas : as = ps := by
            have e2 : as.map prD2 = ps.map prD2 := by rw [← eall, ← eps]
            have e3 : pairsOf (as.map prD2) = pairsOf (ps.map prD2) := by rw [e2]
            rw [pairsOf_map, pairsOf_map] at e3
            exact Option.some.inj e3
          subst eas
          have hpr : xs.map prL = ddP as := pr_of hkeys
          have hpair : ∀ x ∈ xs, ∃ z : Int × Int, x.1 = [z.1, z.2] := fun x hx => by
            have hm : x.1 ∈ (ddP as).map keyL := by rw [← hkeys]; exact List.mem_map.mpr ⟨x, hx, rfl⟩
            obtain ⟨z, _, e⟩ := List.mem_map.mp hm
            exact ⟨z, e.symm⟩
          refine .inl ⟨w.stop G' H' e', L, xs, rfl, hL', hpair, fun x hx => TD.Same.seqT e'.sub (hsq x hx), Nat.le_trans hacc (lineOk_le hline), fun k ys p hk hsd hp hf => ?_⟩
          have e2 : ys.map k = sortP (ddP as) := sortP_eq (by
            rw [← hpr]
            refine (hp.map k).trans ?_
            rw [List.map_map]
            exact List.Perm.of_eq (List.map_congr_left fun x hx => hk x hx)) (List.pairwise_map.mpr (hsd.imp fun {x y} h => by
              show (!SrtO.lexB (k y) (k x)) = true
              rw [show SrtO.lexB (k y) (k x) = false from h]; rfl))
          have e3 : RpAll X.K G' ys ((ys.map k).map prD2) := RpAll.fromKeys fun x hx => by
            obtain ⟨y, hy, rfl⟩ := List.mem_map.mp (hp.mem_iff.mp hx)
            obtain ⟨z, ez⟩ := hpair y hy
            have hq := hsq y hy
            rw [ez] at hq
            refine ⟨y.2.1, rfl, ?_⟩
            rw [hk y hy]
            unfold prL
            rw [ez]
            exact hq
          rw [e2] at e3
          have hH1 : H1 p = none := by
            cases z : H1 p with
            | none => rfl
            | some o => rw [e'.hh _ _ z] at hf; cases hf
          exact q p ys G' _ (e'.trans (Ext.newH e'.sub hf)) hH1 (e'.sub.free hf) upd_same e3
    · rw [if_neg hline] at q
      exact q.elim
section
variable {X : Cx} {W : WX} {wr : List Nat} {pos : Pos}
theorem n_sdc {p dpos : Pos} {kx tg it : Expr} {kb : Nat} {kp : Pos} {scope : Scope} {own : List (Str × Nat)} {vs : List Nat} {f : EnvS → R (List D)} {h : D → EnvS → R EnvS} {fe : EnvS → R D} (hm : X.mg "sorted" = none) (hu : X.A.units < cLine) (hN : X.N.Nodup) (hi : PJD X W tg it f) (ok : BlkOk X.N X.env.scope scope own)
    (hg : ∀ (s : Shared) (H : Hp) (C : Addr) (cl : List (Str × Addr)) (fp : List Addr), PGD (X.blk s H scope (compEnvC scope cl C X.env) fp) wr tg h)
    (he : ∀ (s : Shared) (H : Hp) (C : Addr) (cl : List (Str × Addr)) (fp : List Addr), PD (X.blk s H scope (compEnvC scope cl C X.env) fp) W0 kx fe) (hvs : own.map (·.2) = vs := by rfl) (hwr : ∀ i, i ∈ wr → i ∈ vs := by decide) (hc : X.calm = true := by rfl) (hs : ∀ x, foldedSetIterable it X.env x = pure x := by intro _; rfl)
    (hgl : Gl X "sorted" := by rfl)
    (hst : starEach [.DictComp kx (.Constant (.bool true) kb kp) [⟨tg, it, [], 0⟩] scope dpos] X.env = (false, eval (.DictComp kx (.Constant (.bool true) kb kp) [⟨tg, it, [], 0⟩] scope dpos) X.env) :: starEach [] X.env := by rfl) :
    PDN X W (.Call (.Name "sorted" p) [.DictComp kx (.Constant (.bool true) kb kp) [⟨tg, it, [], 0⟩] scope dpos] [] pos) (sdcL (lcF f h yesB fe vs)) :=
  (pe_callB (cr_sortedX hc) hgl hm boot_sorted (pa_cons (pe_dcx hu hc hN hi ok hg (fun _ _ _ _ _ => ts_nil) he (fun _ _ _ _ _ => pe_bl) hs) pa_nil hst) (by decide) (by decide) hst rfl).wk fun σ H Q q => by
    subst hvs
    exact tDcx_of hwr q
end
end TD

/-! TdLc2: a list comprehension with two sources. -/
namespace TD
open PySem PySem.Spec PyProof.Rows L2
def com2 (h : D → EnvS → R EnvS) (f1 : EnvS → R (List D)) (h1 : D → EnvS → R EnvS) (fe : EnvS → R D) (vs1 : List Nat) : List D → EnvS → R (List D)
  | [], _ => .ok []
  | d :: ds, ρ => match h d ρ with
    | .ok ρ1 => (match f1 ρ1 with
      | .ok es => (match compO h1 yesB fe es (wipeS ρ1 vs1) with
        | .ok ys => (match com2 h f1 h1 fe vs1 ds ρ with
          | .ok zs => .ok (ys ++ zs)
          | _ => .no)
        | _ => .no)
      | _ => .no)
    | _ => .no
def lc2F (f : EnvS → R (List D)) (h : D → EnvS → R EnvS) (f1 : EnvS → R (List D)) (h1 : D → EnvS → R EnvS) (fe : EnvS → R D) (vs vs1 : List Nat) : EnvS → R (List D) := fun ρ => (f ρ).bind fun ds =>
  (com2 h f1 h1 fe vs1 ds (wipeS ρ vs)).bind fun all => if lineOk all.length then .ok all else .no
theorem com2_ex {h : D → EnvS → R EnvS} {f1 : EnvS → R (List D)} {h1 : D → EnvS → R EnvS} {fe : EnvS → R D} {vs1 : List Nat} {x : Str} {ρ : EnvS} : ∀ ds : List D, com2 h f1 h1 fe vs1 ds ρ ≠ .ex x
  | [], z => by cases z
  | d :: ds, z => by
    unfold com2 at z
    split at z
    · split at z
      · split at z
        · split at z <;> cases z
        · cases z
      · cases z
    · cases z
def pun (H : Hp) (L : Addr) : Hp := fun b => if b = L then none else H b
theorem pun_ne {H : Hp} {L b : Addr} (h : b ≠ L) : pun H L b = H b := if_neg h
theorem pun_upd {H : Hp} {L : Addr} {o : HO} : pun (upd H L o) L = pun H L := by
  funext b
  by_cases h : b = L
  · unfold pun; rw [if_pos h, if_pos h]
  · rw [pun_ne h, pun_ne h, upd_ne h]
theorem ext_pun {G H G' H' : Hp} {L : Addr} (e : Ext G H G' H') (n : G' L = none) : Ext G (pun H L) G' (pun H' L) := by
  refine ⟨fun b o hb => ?_, fun b o hb => ?_, e.gg, fun b h1 h2 => ?_⟩
  · have hne : b ≠ L := fun z => by rw [z, n] at hb; cases hb
    rw [pun_ne hne]; exact e.sub _ _ hb
  · by_cases hne : b = L
    · unfold pun at hb; rw [if_pos hne] at hb; cases hb
    · rw [pun_ne hne] at hb ⊢; exact e.hh _ _ hb
  · by_cases hne : b = L
    · unfold pun; rw [if_pos hne]
    · rw [pun_ne hne]; exact e.fr b h1 h2
theorem env_pun {K : PySem.W.Frag} {G H : Hp} {σ : L2.St} {ρ : EnvS} {L : Addr} (he : EnvE K G H σ ρ) (hp : ∀ (i : Nat) (ds : List D) (p : Addr), ρ[i]? = some (some (.ow ds)) → σ[i]? = some (some (.ref p)) → p ≠ L) : EnvE K G (pun H L) σ ρ := by
  refine ⟨he.pu, fun i ds h => ?_, he.len⟩
  obtain ⟨p, vs, h1, h2, h3, h4⟩ := he.ow i ds h
  exact ⟨p, vs, h1, by rw [pun_ne (hp i ds p h h1)]; exact h2, h3, h4⟩
theorem env_unpun {K : PySem.W.Frag} {G H : Hp} {σ : L2.St} {ρ : EnvS} {L : Addr} (he : EnvE K G (pun H L) σ ρ) : EnvE K G H σ ρ := by
  refine ⟨he.pu, fun i ds h => ?_, he.len⟩
  obtain ⟨p, vs, h1, h2, h3, h4⟩ := he.ow i ds h
  refine ⟨p, vs, h1, ?_, h3, h4⟩
  by_cases hne : p = L
  · unfold pun at h2; rw [if_pos hne] at h2; cases h2
  · rwa [pun_ne hne] at h2
theorem tLc2_of {X : Cx} {W : WX} {f f1 : EnvS → R (List D)} {wr wr1 vs vs1 : List Nat} {h h1 : D → EnvS → R EnvS} {fe : EnvS → R D} (hwr : ∀ i, i ∈ wr → i ∈ vs) (hwr1 : ∀ i, i ∈ wr1 → i ∈ vs1) {σ : L2.St} {H : Hp} {Q : VK}
    (q : tN X.K X.mg W (lc2F f h f1 h1 fe vs vs1) σ H Q) : tLc2 (tJ X.K X.mg W f) (tG X.K wr h) (tD X.K X.mg W0 rpB yesB) (tI X.K X.mg W0 f1) (tG X.K wr1 h1) (tD X.K X.mg W0 rpB yesB) (tD X.K X.mg W0 (rpE X.K) fe) vs vs1 σ H Q := by
  obtain ⟨G, ρ, hs, he, q⟩ := q
  unfold lc2F at q
  refine ⟨G, ρ, hs, he, ?_⟩
  cases ef : f ρ with
  | ex x => rw [ef] at q; exact q
  | no => rw [ef] at q; exact q
  | ok ds =>
    rw [ef] at q
    have q : PostN X.K (Wxo X.mg W σ) G H ((com2 h f1 h1 fe vs1 ds (wipeS ρ vs)).bind fun all => if lineOk all.length then .ok all else .no) Q := q
    intro J G1 H1 e1 w L hL
    have he1 := he.up e1
    have q := PostN.fin.later _ _ _ _ _ q e1
    have nG1 : G1 L = none := e1.sub.free hL
    cases ec : com2 h f1 h1 fe vs1 ds (wipeS ρ vs) with
    | ex x => exact absurd ec (com2_ex ds)
    | no => rw [ec] at q; exact q.elim
    | ok all =>
      rw [ec] at q
      have q : PostN X.K (Wxo X.mg W σ) G1 H1 (if lineOk all.length then .ok all else .no) Q := q
      by_cases hline : lineOk all.length = true
      · rw [if_pos hline] at q
        have q : ∀ q' xs G' H', Ext G1 H1 G' H' → H1 q' = none → G' q' = none → H' q' = some (.lst xs) → RpAll X.K G' xs all → Q (.ref q') H' := q
        have hle := lineOk_le hline
        have nLx : ∀ {Ga Ha Gb Hb : Hp} {o : HO}, Ext Ga Ha Gb Hb → Ga L = none → Ha L = some o → Gb L = none ∧ Hb L = some o := fun {Ga Ha Gb Hb o} ee z1 z2 => by
          refine ⟨?_, ee.hh _ _ z2⟩
          by_cases z : Gb L = none
          · exact z
          · rw [ee.fr L z1 z] at z2; cases z2
        let Wv : Nat → Hp → Prop := fun i H' => ∃ G' acc as rest, Ext G1 H1 G' H' ∧ G' L = none ∧ H' L = some (.lst acc) ∧ RpAll X.K G' acc as ∧ com2 h f1 h1 fe vs1 (ds.drop i) (wipeS ρ vs) = .ok rest ∧ all = as ++ rest
        refine ⟨fun i m H' => m = ds.length - i ∧ i ≤ ds.length ∧ Wv i H', ⟨ds.length, by omega, Nat.zero_le _, G1, [], [], all, Ext.newH e1.sub hL, nG1, upd_same, .nil, ec, rfl⟩, ?_⟩
        rintro i m H' ⟨rfl, hi, G', acc, as, rest, e', nG', hL', ra, ec', eall⟩
        by_cases hlt : i < ds.length
        · have hd : ds[i]? = some ds[i] := List.getElem?_eq_getElem hlt
          refine .inr ⟨w.go i _ G' H' hd e', Wv (i + 1), fun H2 p2 => ⟨ds.length - (i + 1), by omega, rfl, hlt, p2⟩, fun x H3 hy => ?_⟩
          obtain ⟨G3, e3, r3⟩ := w.yld i _ x G' H' H3 hd e' hy
          have hdr : ds.drop i = ds[i] :: ds.drop (i + 1) := List.drop_eq_getElem_cons hlt
          rw [hdr] at ec'
          unfold com2 at ec'
          have e13 := e'.trans e3
          have env3 := wipe_env (he1.up e13) vs
          obtain ⟨n3, h3⟩ := nLx e3 nG' hL'
          cases eh : h ds[i] (wipeS ρ vs) with
          | ex x => rw [eh] at ec'; cases ec'
          | no => rw [eh] at ec'; cases ec'
          | ok ρ1 =>
            rw [eh] at ec'
            dsimp only at ec'
            refine ⟨G3, wipeS ρ vs, ds[i], e3.sub, env3.len, env3, r3, ρ1, eh, fun σ1 p1 => ⟨wipe_wipe (by rw [p1.len', wipe_length]) fun j hj => (p1.fr j fun z => hj (hwr j z)).1, ?_⟩⟩
            refine ⟨G3, ρ1, e3.sub, p1.env, ?_⟩
            show Post rpB _ G3 H3 (.ok true) _
            intro v G4 H4 e4 rv
            cases rv
            obtain ⟨n4, h4⟩ := nLx e4 n3 h3
            rw [if_pos rfl]
            refine ⟨G4, ρ1, e4.sub, p1.env.up e4, ?_⟩
            cases ef1 : f1 ρ1 with
            | ex x => rw [ef1] at ec'; cases ec'
            | no => rw [ef1] at ec'; cases ec'
            | ok es =>
              rw [ef1] at ec'
              dsimp only at ec'
              cases ey : compO h1 yesB fe es (wipeS ρ1 vs1) with
              | ex x => rw [ey] at ec'; cases ec'
              | no => rw [ey] at ec'; cases ec'
              | ok ys =>
                rw [ey] at ec'
                dsimp only at ec'
                cases ez : com2 h f1 h1 fe vs1 (ds.drop (i + 1)) (wipeS ρ vs) with
                | ex x => rw [ez] at ec'; cases ec'
                | no => rw [ez] at ec'; cases ec'
                | ok zs =>
                  rw [ez] at ec'
                  cases ec'
                  intro J1 G5 H5 e5 w1
                  obtain ⟨n5, h5⟩ := nLx e5 n4 h4
                  have env5 := (p1.env.up e4).up e5
                  have w0 := wipe_env he1 vs
                  have own1 : ∀ (i : Nat) (ds : List D) (p : Addr), ρ1[i]? = some (some (.ow ds)) → σ1[i]? = some (some (.ref p)) → p ≠ L := fun i ds p h1 h2 z => by
                    by_cases hm : i ∈ wr
                    · exact p1.no i hm ds h1
                    · obtain ⟨f1, f2⟩ := p1.fr i hm
                      rw [f2] at h1
                      rw [f1] at h2
                      obtain ⟨p', vs', z1, z2, _, _⟩ := w0.ow i ds h1
                      rw [h2] at z1
                      cases z1
                      rw [z, hL] at z2
                      cases z2
                  have env5p := env_pun env5 own1
                  have e15 := (e13.trans e4).trans e5
                  have ra5 := ra.up ((e3.gg.trans e4.gg).trans e5.gg)
                  let Wi : Nat → Hp → Prop := fun j Ha => ∃ Ga acc as rest1, Ext G1 H1 Ga Ha ∧ Ext G5 (pun H5 L) Ga (pun Ha L) ∧ Ga L = none ∧ Ha L = some (.lst acc) ∧ RpAll X.K Ga acc as ∧ compO h1 yesB fe (es.drop j) (wipeS ρ1 vs1) = .ok rest1 ∧ all = as ++ (rest1 ++ zs)
                  refine ⟨fun j k Ha => k = es.length - j ∧ j ≤ es.length ∧ Wi j Ha, ⟨es.length, by omega, Nat.zero_le _, G5, acc, as, ys, e15, ext_pun (.refl e5.sub) n5, n5, h5, ra5, ey, by rw [eall]⟩, ?_⟩
                  rintro j k Ha ⟨rfl, hj, Ga, acc, as, rest1, ea, eap, na, ha, raa, ecj, ealj⟩
                  have la : acc.length < all.length ∨ rest1 = [] := by
                    cases rest1 with
                    | nil => exact .inr rfl
                    | cons r rs =>
                      refine .inl ?_
                      rw [ealj, List.length_append, raa.length, List.length_append, List.length_cons]
                      omega
                  by_cases hlt1 : j < es.length
                  · have hd1 : es[j]? = some es[j] := List.getElem?_eq_getElem hlt1
                    refine .inr ⟨w1.go j _ Ga Ha hd1 eap.gg ea.sub, Wi (j + 1), fun H2 p2 => ⟨es.length - (j + 1), by omega, rfl, hlt1, p2⟩, fun x Hb hyb => ?_⟩
                    obtain ⟨Gb, eb, rb⟩ := w1.yld j _ x Ga Ha Hb hd1 eap.gg ea.sub hyb
                    have hdr1 : es.drop j = es[j] :: es.drop (j + 1) := List.drop_eq_getElem_cons hlt1
                    rw [hdr1] at ecj
                    unfold compO at ecj
                    obtain ⟨nb, hb⟩ := nLx eb na ha
                    have eabp := eap.trans (ext_pun eb nb)
                    have envb := wipe_env (env_unpun (env5p.up eabp)) vs1
                    cases eh1 : h1 es[j] (wipeS ρ1 vs1) with
                    | ex x => rw [eh1] at ecj; cases ecj
                    | no => rw [eh1] at ecj; cases ecj
                    | ok ρ2 =>
                      rw [eh1] at ecj
                      dsimp only [yesB] at ecj
                      refine ⟨Gb, wipeS ρ1 vs1, es[j], eb.sub, envb.len, envb, rb, ρ2, eh1, fun σ2 p2 => ⟨wipe_wipe (by rw [p2.len', wipe_length]) fun j hj => (p2.fr j fun z => hj (hwr1 j z)).1, ?_⟩⟩
                      refine ⟨Gb, ρ2, eb.sub, p2.env, ?_⟩
                      show Post rpB _ Gb Hb (.ok true) _
                      intro v Gc Hc ecx rv
                      cases rv
                      obtain ⟨nc, hc⟩ := nLx ecx nb hb
                      rw [if_pos rfl]
                      refine ⟨Gc, ρ2, ecx.sub, p2.env.up ecx, ?_⟩
                      cases ee : fe ρ2 with
                      | ex x => rw [ee] at ecj; cases ecj
                      | no => rw [ee] at ecj; cases ecj
                      | ok y =>
                        rw [ee] at ecj
                        intro v Gd Hd ed rd
                        obtain ⟨nd, hd⟩ := nLx ed nc hc
                        have ead := ((ea.trans eb).trans ecx).trans ed
                        have eadp := (eabp.trans (ext_pun ecx nc)).trans (ext_pun ed nd)
                        cases er : compO h1 yesB fe (es.drop (j + 1)) (wipeS ρ1 vs1) with
                        | ex x => rw [er] at ecj; cases ecj
                        | no => rw [er] at ecj; cases ecj
                        | ok ys' =>
                          rw [er] at ecj
                          cases ecj
                          have lacc : acc.length < all.length := by
                            rcases la with z | z
                            · exact z
                            · cases z
                          refine ⟨acc, hd, Nat.lt_of_lt_of_le lacc hle, Gd, acc ++ [v], as ++ [y], ys', ⟨fun b o hb => ?_, fun b o hb => ?_, ead.gg, ead.fr⟩, by rw [pun_upd]; exact eadp, nd, upd_same, (raa.up ((eb.gg.trans ecx.gg).trans ed.gg)).append (.one rd), er, by rw [ealj, List.append_assoc]; rfl⟩
                          · rw [upd_ne (ne_of_none hb nd)]; exact ead.sub _ _ hb
                          · rw [upd_ne (ne_of_none hb hL)]; exact ead.hh _ _ hb
                  · have ej : j = es.length := by omega
                    subst ej
                    rw [List.drop_length] at ecj
                    cases ecj
                    rw [List.nil_append] at ealj
                    exact .inl ⟨w1.stop Ga Ha eap.gg ea.sub, Ga, acc, as, zs, ea, na, ha, raa, ez, ealj⟩
        · have ei : i = ds.length := by omega
          subst ei
          rw [List.drop_length] at ec'
          cases ec'
          rw [List.append_nil] at eall
          subst eall
          exact .inl ⟨w.stop G' H' e', q L acc G' H' e' hL nG' hL' ra⟩
      · rw [if_neg hline] at q
        exact q.elim
section
variable {X : Cx} {W : WX} {wr wr1 : List Nat} {pos : Pos}
theorem n_lc2 {elt tg it tg1 it1 : Expr} {scope : Scope} {own : List (Str × Nat)} {vs : List Nat} (vs1 : List Nat) {f f1 : EnvS → R (List D)} {h h1 : D → EnvS → R EnvS} {fe : EnvS → R D} (hN : X.N.Nodup) (hi : PJD X W tg it f) (ok : BlkOk X.N X.env.scope scope own)
    (hg : ∀ (s : Shared) (H : Hp) (C : Addr) (cl : List (Str × Addr)) (fp : List Addr), PGD (X.blk s H scope (compEnvC scope cl C X.env) fp) wr tg h)
    (hi1 : ∀ (s : Shared) (H : Hp) (C : Addr) (cl : List (Str × Addr)) (fp : List Addr), PID (X.blk s H scope (compEnvC scope cl C X.env) fp) W0 tg1 it1 f1)
    (hg1 : ∀ (s : Shared) (H : Hp) (C : Addr) (cl : List (Str × Addr)) (fp : List Addr), PGD (X.blk s H scope (compEnvC scope cl C X.env) fp) wr1 tg1 h1)
    (he : ∀ (s : Shared) (H : Hp) (C : Addr) (cl : List (Str × Addr)) (fp : List Addr), PD (X.blk s H scope (compEnvC scope cl C X.env) fp) W0 elt fe) (hvs : own.map (·.2) = vs := by rfl) (hwr : ∀ i, i ∈ wr → i ∈ vs := by decide) (hwr1 : ∀ i, i ∈ wr1 → i ∈ vs1 := by decide) (hv1 : ∀ i ∈ vs1, i ∈ vs := by decide) (hc : X.calm = true := by rfl) (hs : ∀ x, foldedSetIterable it X.env x = pure x := by intro _; rfl) (hs1 : ∀ env x, foldedSetIterable it1 env x = pure x := by intro _ _; rfl) :
    PDN X W (.ListComp elt [⟨tg, it, [], 0⟩, ⟨tg1, it1, [], 0⟩] scope pos) (lc2F f h f1 h1 fe vs vs1) := by
  subst hvs
  exact (pe_lc2 hc hN hi ok hv1 hg (fun _ _ _ _ _ => ts_nil) hi1 hg1 (fun _ _ _ _ _ => ts_nil) he hs hs1).wk fun σ H Q q => tLc2_of hwr hwr1 q
end
end TD

/-! TdZip: zip(a, b) kept in a name, then summed over in a comprehension. -/
namespace TD
open PySem PySem.Spec PyProof.Rows L2
/-! ### several things tracked at once -/
def updL (H : Hp) : List (Addr × HO) → Hp
  | [] => H
  | p :: r => upd (updL H r) p.1 p.2
theorem updL_old {H : Hp} {n b : Addr} (hb : b < n) : ∀ {l : List (Addr × HO)}, (∀ p ∈ l, n ≤ p.1) → updL H l b = H b
  | [], _ => rfl
  | p :: r, h => by
    have h1 := h p List.mem_cons_self
    unfold updL
    rw [upd_ne (Nat.ne_of_lt (Nat.lt_of_lt_of_le hb h1))]
    exact updL_old hb fun q hq => h q (List.mem_cons_of_mem _ hq)
theorem updL_mem {H : Hp} {n b : Addr} {u : HO} (hn : H b = none) : ∀ {l : List (Addr × HO)}, updL H l b = some u → (b, u) ∈ l
  | [], h => by unfold updL at h; rw [hn] at h; cases h
  | p :: r, h => by
    unfold updL at h
    by_cases e : b = p.1
    · subst e
      rw [upd_same] at h
      cases h
      exact List.mem_cons_self
    · rw [upd_ne e] at h
      exact List.mem_cons_of_mem _ (updL_mem (n := n) hn h)
theorem inv_many {X : Cx} {pins : List (Addr × Obj)} {σ : L2.St} {H : Hp} {s : Shared} {h' : Heap} (I : Inv X pins σ H s) (k : ∀ b u, s.heap.get? b = some u → h'.get? b = some u) {l : List (Addr × HO)} (hl : ∀ p ∈ l, s.heap.objs.size ≤ p.1)
    (new : ∀ p ∈ l, ObjOk X.prog X.w (updL H l) h' p.1 p.2) : Inv X pins σ (updL H l) { s with heap := h' } := by
  have old : ∀ b o, s.heap.get? b = some o → updL H l b = H b := fun b o e => updL_old (Heap.lt_size e) hl
  have oldH : ∀ b u, H b = some u → updL H l b = some u := fun b u e => by rw [updL_old (I.hok.lt e) hl]; exact e
  refine I.un (t' := s.toks) ⟨fun b o e _ _ _ => k b o e, fun b o e _ _ _ => ⟨o.slots, k b o e⟩, fun b o e n _ => by rw [old b o e]; exact n, fun b o e _ => ⟨o, k b o e⟩, fun b xs e => oldH b _ e, fun b o u e => oldH b _ e, fun b ps e => ⟨#[], by rw [oldH b _ e]; simp⟩⟩ fun b u e => ?_
  by_cases hb : b < s.heap.objs.size
  · rw [updL_old hb hl] at e
    exact (I.hok b u e).stay (fun c v _ q => k c v q) (fun c q => oldH c _ q) fun c xs q => oldH c _ q
  · exact new (b, u) (updL_mem (n := b) (I.hok.fresh (Nat.le_of_not_lt hb)) e)
theorem ext_ok {P : Program} {w : World} {H : Hp} {h : Heap} {a : Addr} {φ : Heap → Prop} (h1 : φ h) (h2 : ∃ o, h.get? a = some o) (h3 : ∀ h1 h2 : Heap, φ h1 → (∀ o, h1.get? a = some o → h2.get? a = some o) → φ h2) : ObjOk P w H h a (.ext φ) := ⟨h1, h2, h3⟩
/-! ### the five things of a zip of two tuples -/
def zpZ (m : Addr) : HO := .ext fun h => IsZip h (m + 4) (m + 2) (m + 3) .none
def zpI (m : Addr) : HO := .ext fun h => IsPair h (m + 2) (.ref m) (.ref (m + 1))
def zpO3 (m : Addr) : HO := .ext fun h => ∃ x y, IsPair h (m + 3) x y
def zpT (it a : Addr) : HO := .ext fun h => h.IsTupleIter it a 0
def zpL (m a b : Addr) : List (Addr × HO) := [(m + 4, zpZ m), (m + 2, zpI m), (m + 3, zpO3 m), (m, zpT m a), (m + 1, zpT (m + 1) b)]
def zipH (H : Hp) (m a b : Addr) : Hp := updL H (zpL m a b)
theorem ne_add {m k j : Nat} (h : k ≠ j) : m + k ≠ m + j := fun z => h (by omega)
theorem ne_0 {m k : Nat} (h : 0 < k) : m ≠ m + k := fun z => by omega
theorem ne_10 {m : Nat} : m + 1 ≠ m := fun z => by omega
section
variable {H : Hp} {m a b : Addr}
theorem zipH_old {c : Addr} (hc : c < m) : zipH H m a b c = H c := updL_old hc fun p hp => by
  unfold zpL at hp
  simp only [List.mem_cons, List.not_mem_nil, or_false] at hp
  rcases hp with rfl | rfl | rfl | rfl | rfl
  · exact Nat.le_add_right _ _
  · exact Nat.le_add_right _ _
  · exact Nat.le_add_right _ _
  · exact Nat.le_refl _
  · exact Nat.le_add_right _ _
theorem zipH4 : zipH H m a b (m + 4) = some (zpZ m) := by unfold zipH zpL updL; exact upd_same
theorem zipH2 : zipH H m a b (m + 2) = some (zpI m) := by unfold zipH zpL updL updL; rw [upd_ne (ne_add (by decide))]; exact upd_same
theorem zipH3 : zipH H m a b (m + 3) = some (zpO3 m) := by unfold zipH zpL updL updL updL; rw [upd_ne (ne_add (by decide)), upd_ne (ne_add (by decide))]; exact upd_same
theorem zipH0 : zipH H m a b m = some (zpT m a) := by
  unfold zipH zpL updL updL updL updL
  rw [upd_ne (ne_0 (by decide)), upd_ne (ne_0 (by decide)), upd_ne (ne_0 (by decide))]
  exact upd_same
theorem zipH1 : zipH H m a b (m + 1) = some (zpT (m + 1) b) := by
  unfold zipH zpL updL updL updL updL updL
  rw [upd_ne (ne_add (by decide)), upd_ne (ne_add (by decide)), upd_ne (ne_add (by decide)), upd_ne ne_10]
  exact upd_same
end
/-- the five forgotten -/
def dropZ (H : Hp) (m : Addr) : Hp := ItX.dropH (ItX.dropH (ItX.dropH (ItX.dropH (ItX.dropH H (m + 4)) (m + 2)) (m + 3)) m) (m + 1)
def in5 (m c : Addr) : Prop := c = m + 4 ∨ c = m + 2 ∨ c = m + 3 ∨ c = m ∨ c = m + 1
theorem dropZ_in {H : Hp} {m c : Addr} (h : in5 m c) : dropZ H m c = none := by
  unfold dropZ ItX.dropH
  rcases h with rfl | rfl | rfl | rfl | rfl <;> simp
theorem dropZ_ne {H : Hp} {m c : Addr} (h : ¬ in5 m c) : dropZ H m c = H c := by
  unfold in5 at h
  unfold dropZ ItX.dropH
  rw [if_neg fun z => h (by rw [z]; simp), if_neg fun z => h (by rw [z]; simp), if_neg fun z => h (by rw [z]; simp), if_neg fun z => h (by rw [z]; simp), if_neg fun z => h (by rw [z]; simp)]
theorem dropZ_zipH {H : Hp} {m a b : Addr} (h : ∀ c, m ≤ c → H c = none) : dropZ (zipH H m a b) m = H := by
  funext c
  by_cases hc : in5 m c
  · rw [dropZ_in hc]
    refine (h c ?_).symm
    rcases hc with rfl | rfl | rfl | rfl | rfl
    · exact Nat.le_add_right _ _
    · exact Nat.le_add_right _ _
    · exact Nat.le_add_right _ _
    · exact Nat.le_refl _
    · exact Nat.le_add_right _ _
  · rw [dropZ_ne hc]
    unfold in5 at hc
    unfold zipH zpL updL updL updL updL updL updL
    rw [upd_ne fun z => hc (.inl z), upd_ne fun z => hc (.inr (.inl z)), upd_ne fun z => hc (.inr (.inr (.inl z))), upd_ne fun z => hc (.inr (.inr (.inr (.inl z)))), upd_ne fun z => hc (.inr (.inr (.inr (.inr z))))]
def rZipT (X : Cx) : List V → Hp → VK → Prop := fun vs H Q => ∃ (a b : Addr) (xs ys : List V), vs = [.ref a, .ref b] ∧ SqT X.K H a xs ∧ SqT X.K H b ys ∧
  ∀ m, a < m → b < m → X.s_0.heap.objs.size ≤ m → (∀ c, m ≤ c → H c = none) → Q (.ref (m + 4)) (zipH H m a b)
section
variable {X : Cx}
theorem cr_zipT : CallR X (.type "zip") (rZipT X) := by
  intro pins s σ H vs us Q I r h
  obtain ⟨a, b, xs, ys, rfl, hqx, hqy, q⟩ := h
  obtain ⟨u1, u2, rfl, ri, rj⟩ := vals2 r
  cases ri
  cases rj
  obtain ⟨its, rv, p1, _⟩ := I.tuple hqx
  obtain ⟨its2, rv2, p2, _⟩ := I.tuple hqy
  obtain ⟨o1, ho1, _⟩ := id p1
  obtain ⟨o2, ho2, _⟩ := id p2
  refine RZ.call_zipT (show s.heap.IsTuple a its.toArray from p1) (show s.heap.IsTuple b its2.toArray from p2) fun h' hz hTI hTO h1 h2 hsz hk => ?_
  generalize hm : s.heap.objs.size = m at hz hTI hTO h1 h2 hsz
  have I2 : Inv X pins σ (zipH H m a b) { s with heap := h' } := by
    refine inv_many I hk (fun p hp => ?_) fun p hp => ?_
    · unfold zpL at hp
      simp only [List.mem_cons, List.not_mem_nil, or_false] at hp
      rw [hm]
      rcases hp with rfl | rfl | rfl | rfl | rfl
      · exact Nat.le_add_right _ _
      · exact Nat.le_add_right _ _
      · exact Nat.le_add_right _ _
      · exact Nat.le_refl _
      · exact Nat.le_add_right _ _
    · unfold zpL at hp
      simp only [List.mem_cons, List.not_mem_nil, or_false] at hp
      rcases hp with rfl | rfl | rfl | rfl | rfl
      · exact ext_ok hz ⟨_, hz⟩ fun g1 g2 p k => k _ p
      · exact ext_ok hTI ⟨_, hTI⟩ fun g1 g2 p k => k _ p
      · exact ext_ok ⟨_, _, hTO⟩ ⟨_, hTO⟩ fun g1 g2 ⟨x, y, p⟩ k => ⟨x, y, k _ p⟩
      · exact ext_ok h1 (by obtain ⟨o, e, _⟩ := h1; exact ⟨o, e⟩) fun g1 g2 p k => p.at k
      · exact ext_ok h2 (by obtain ⟨o, e, _⟩ := h2; exact ⟨o, e⟩) fun g1 g2 p k => p.at k
  exact ⟨.ref (m + 4), _, I2, rfl, q m (by rw [← hm]; exact Heap.lt_size ho1) (by rw [← hm]; exact Heap.lt_size ho2) (by rw [← hm]; exact I.sz) fun c hc => I.hok.fresh (by rw [hm]; exact hc)⟩
/-- what is walked: the zip that stands at the place i -/
def iZn (X : Cx) (i : Nat) : TI := fun σ H R => ∃ (m a b : Addr) (H0 : Hp), AtE i (m + 4) σ ∧ a < m ∧ b < m ∧ X.s_0.heap.objs.size ≤ m ∧ (∀ c, m ≤ c → H0 c = none) ∧ H = zipH H0 m a b ∧ R (RZ.ItzT X.K a b) H0
theorem pi_zn {i : Nat} {x : Str} {p tpos : Pos} {elts : List Expr} {kk : Nat} (hN : X.N[i]? = some x) (hv : Vis X.env.scope x) (hd : (x == ("__debug__" : Str)) = false := by decide) (hcd : (x == ("__classdict__" : Str)) = false := by decide) :
    PI X (.Tuple elts kk tpos) (.Name x p) (iZn X i) := by
  refine ⟨fun pins s σ H R I h => ?_⟩
  obtain ⟨m, a, b, H0, hs, la, lb, ly, hf, rfl, q⟩ := h
  have hs : σ[i]? = some (some (.ref (m + 4))) := by
    obtain ⟨σ0, rfl⟩ := hs
    have hl : i < σ0.length := by
      have := I.len
      rw [List.length_set] at this
      rw [this]
      rcases Nat.lt_or_ge i X.N.length with z | z
      · exact z
      · rw [List.getElem?_eq_none z] at hN; cases hN
    exact List.getElem?_set_self hl
  refine thn ((pe_var (pos := p) (i := i) hN hv hd hcd).run pins s σ _ (fun v H1 => v = .ref (m + 4) ∧ H1 = zipH H0 m a b) I ⟨_, hs, rfl, rfl⟩) fun u s1 ⟨v, H1, I1, r1, ev, eH⟩ => ?_
  subst ev
  rw [eH] at I1
  cases r1
  have ok4 := (show ObjOk X.prog X.w _ s1.heap (m + 4) (zpZ m) from I1.hok _ _ zipH4).1
  have ok2 := (show ObjOk X.prog X.w _ s1.heap (m + 2) (zpI m) from I1.hok _ _ zipH2).1
  have ok3 := (show ObjOk X.prog X.w _ s1.heap (m + 3) (zpO3 m) from I1.hok _ _ zipH3).1
  have ok0 := (show ObjOk X.prog X.w _ s1.heap m (zpT m a) from I1.hok _ _ zipH0).1
  have ok1 := (show ObjOk X.prog X.w _ s1.heap (m + 1) (zpT (m + 1) b) from I1.hok _ _ zipH1).1
  refine wpAny_pyIter_zip ok4 ?_
  have ly' : ∀ k, X.s_0.heap.objs.size ≤ m + k := fun k => Nat.le_trans ly (Nat.le_add_right _ _)
  have fp : ∀ c, in5 m c → FpOk X pins H0 c := fun c hc => by
    have hn : H0 c = none := hf c (by
      rcases hc with rfl | rfl | rfl | rfl | rfl
      · exact Nat.le_add_right _ _
      · exact Nat.le_add_right _ _
      · exact Nat.le_add_right _ _
      · exact Nat.le_refl _
      · exact Nat.le_add_right _ _)
    rcases hc with rfl | rfl | rfl | rfl | rfl
    · exact ⟨hn, (ItX.inv_fp I1 zipH4 (ly' 4)).2⟩
    · exact ⟨hn, (ItX.inv_fp I1 zipH2 (ly' 2)).2⟩
    · exact ⟨hn, (ItX.inv_fp I1 zipH3 (ly' 3)).2⟩
    · exact ⟨hn, (ItX.inv_fp I1 zipH0 ly).2⟩
    · exact ⟨hn, (ItX.inv_fp I1 zipH1 (ly' 1)).2⟩
  have J : Inv X pins σ H0 s1 := by
    rw [← dropZ_zipH (H := H0) (m := m) (a := a) (b := b) hf]
    unfold dropZ
    have n42 : m + 2 ≠ m + 4 := ne_add (by decide)
    have n43 : m + 3 ≠ m + 4 := ne_add (by decide)
    have n23 : m + 3 ≠ m + 2 := ne_add (by decide)
    have n40 : m ≠ m + 4 := ne_0 (by decide)
    have n20 : m ≠ m + 2 := ne_0 (by decide)
    have n30 : m ≠ m + 3 := ne_0 (by decide)
    have n41 : m + 1 ≠ m + 4 := ne_add (by decide)
    have n21 : m + 1 ≠ m + 2 := ne_add (by decide)
    have n31 : m + 1 ≠ m + 3 := ne_add (by decide)
    have n01 : m + 1 ≠ m := ne_10
    have J1 := ItX.inv_drop I1 zipH4
    have J2 := ItX.inv_drop J1 (a := m + 2) (by rw [ItX.dropH_ne n42]; exact zipH2)
    have J3 := ItX.inv_drop J2 (a := m + 3) (by rw [ItX.dropH_ne n23, ItX.dropH_ne n43]; exact zipH3)
    have J4 := ItX.inv_drop J3 (a := m) (by rw [ItX.dropH_ne n30, ItX.dropH_ne n20, ItX.dropH_ne n40]; exact zipH0)
    exact ItX.inv_drop J4 (a := m + 1) (by rw [ItX.dropH_ne n01, ItX.dropH_ne n31, ItX.dropH_ne n21, ItX.dropH_ne n41]; exact zipH1)
  exact ⟨m + 4, [m + 4, m + 2, m + 3, m, m + 1], _, _, H0, rfl, J, RZ.turn_zipT (PySem.W.ktu_apart m a b la lb), ⟨ok4, ok2, ok3, ok0, ok1⟩, fun c hc => fp c (by simpa [in5] using hc), q⟩
end
/-! ### over data -/
theorem tLc_at {X : Cx} {W : WX} {wr vs : List Nat} {h : D → EnvS → R EnvS} {t : EnvS → R Bool} {fe : EnvS → R D} (hwr : ∀ i, i ∈ wr → i ∈ vs) {σ : L2.St} {G H : Hp} {ρ : EnvS} {ds : List D} {Q : VK} (hs : Same G H) (he : EnvE X.K G H σ ρ) (hline : lineOk ds.length = true)
    (q : PostN X.K (Wxo X.mg W σ) G H (compO h t fe ds (wipeS ρ vs)) Q) (J : It) (G1 H1 : Hp) (e1 : Ext G H G1 H1) (w : WalkH X.K J G1 H1 ds) : tLc (fun _ _ R => R J H1) (tG X.K wr h) (tD X.K X.mg W0 rpB t) (tD X.K X.mg W0 (rpE X.K) fe) vs σ H Q := by
  intro L hL
  have he1 := he.up e1
  have q := PostN.fin.later _ _ _ _ _ q e1
  have nG1 : G1 L = none := e1.sub.free hL
  cases ec : compO h t fe ds (wipeS ρ vs) with
  | ex x => 
    exact absurd ec (by
      have : ∀ ds : List D, compO h t fe ds (wipeS ρ vs) ≠ .ex x := by
        intro ds
        induction ds with
        | nil => intro z; cases z
        | cons d r ih =>
          unfold compO
          intro z
          split at z
          · split at z
            · split at z
              · split at z <;> cases z
              · cases z
            · exact ih z
            · cases z
          · cases z
      exact this ds)
  | no => rw [ec] at q; exact q.elim
  | ok all =>
    rw [ec] at q
    have q : ∀ q' xs G' H', Ext G1 H1 G' H' → H1 q' = none → G' q' = none → H' q' = some (.lst xs) → RpAll X.K G' xs all → Q (.ref q') H' := q
    let Wv : Nat → Hp → Prop := fun i H' => ∃ G' acc as rest, Ext G1 H1 G' H' ∧ G' L = none ∧ H' L = some (.lst acc) ∧ RpAll X.K G' acc as ∧ acc.length ≤ i ∧ compO h t fe (ds.drop i) (wipeS ρ vs) = .ok rest ∧ all = as ++ rest
    refine ⟨fun i m H' => m = ds.length - i ∧ i ≤ ds.length ∧ Wv i H', ⟨ds.length, by omega, Nat.zero_le _, G1, [], [], all, Ext.newH e1.sub hL, nG1, upd_same, .nil, Nat.le_refl _, ec, rfl⟩, ?_⟩
    rintro i m H' ⟨rfl, hi, G', acc, as, rest, e', nG', hL', ra, hacc, ec', eall⟩
    by_cases hlt : i < ds.length
    · have hd : ds[i]? = some ds[i] := List.getElem?_eq_getElem hlt
      refine .inr ⟨w.go i _ G' H' hd e', Wv (i + 1), fun H2 p2 => ⟨ds.length - (i + 1), by omega, rfl, hlt, p2⟩, fun x H3 hy => ?_⟩
      obtain ⟨G3, e3, r3⟩ := w.yld i _ x G' H' H3 hd e' hy
      have hdr : ds.drop i = ds[i] :: ds.drop (i + 1) := List.drop_eq_getElem_cons hlt
      rw [hdr] at ec'
      unfold compO at ec'
      have e13 := e'.trans e3
      have env3 := wipe_env (he1.up e13) vs
      have nL : ∀ {Ga Ha Gb Hb : Hp}, Ext Ga Ha Gb Hb → Ga L = none → Ha L = some (.lst acc) → Gb L = none ∧ Hb L = some (.lst acc) := fun {Ga Ha Gb Hb} ee z1 z2 => by
        refine ⟨?_, ee.hh _ _ z2⟩
        by_cases z : Gb L = none
        · exact z
        · rw [ee.fr L z1 z] at z2; cases z2
      obtain ⟨n3, h3⟩ := nL e3 nG' hL'
      cases eh : h ds[i] (wipeS ρ vs) with
      | ex x => rw [eh] at ec'; cases ec'
      | no => rw [eh] at ec'; cases ec'
      | ok ρ1 =>
        rw [eh] at ec'
        dsimp only at ec'
        refine ⟨G3, wipeS ρ vs, ds[i], e3.sub, env3.len, env3, r3, ρ1, eh, fun σ1 p1 => ⟨wipe_wipe (by rw [p1.len', wipe_length]) fun j hj => (p1.fr j fun z => hj (hwr j z)).1, ?_⟩⟩
        cases et : t ρ1 with
        | ex x => rw [et] at ec'; cases ec'
        | no => rw [et] at ec'; cases ec'
        | ok b =>
          rw [et] at ec'
          refine ⟨G3, ρ1, e3.sub, p1.env, ?_⟩
          rw [et]
          intro v G4 H4 e4 rv
          cases rv
          obtain ⟨n4, h4⟩ := nL e4 n3 h3
          cases b with
          | true =>
            dsimp only at ec'
            rw [if_pos rfl]
            refine ⟨G4, ρ1, e4.sub, p1.env.up e4, ?_⟩
            cases ee : fe ρ1 with
            | ex x => rw [ee] at ec'; cases ec'
            | no => rw [ee] at ec'; cases ec'
            | ok y =>
              rw [ee] at ec'
              intro v G5 H5 e5 r5
              obtain ⟨n5, h5⟩ := nL e5 n4 h4
              have e15 := (e13.trans e4).trans e5
              cases er : compO h t fe (ds.drop (i + 1)) (wipeS ρ vs) with
              | ex x => rw [er] at ec'; cases ec'
              | no => rw [er] at ec'; cases ec'
              | ok ys =>
                rw [er] at ec'
                cases ec'
                refine ⟨acc, h5, Nat.lt_of_le_of_lt hacc (Nat.lt_of_lt_of_le hlt (lineOk_le hline)), G5, acc ++ [v], as ++ [y], ys, ⟨fun b o hb => ?_, fun b o hb => ?_, e15.gg, e15.fr⟩, n5, upd_same, (ra.up ((e3.gg.trans e4.gg).trans e5.gg)).append (.one r5), by rw [List.length_append, List.length_singleton]; omega, er, by rw [eall, List.append_assoc]; rfl⟩
                · rw [upd_ne (ne_of_none hb n5)]; exact e15.sub _ _ hb
                · rw [upd_ne (ne_of_none hb hL)]; exact e15.hh _ _ hb
          | false =>
            dsimp only at ec'
            rw [if_neg Bool.false_ne_true]
            exact ⟨G4, acc, as, rest, e13.trans e4, n4, h4, ra.up (e3.gg.trans e4.gg), by omega, ec', eall⟩
    · have ei : i = ds.length := by omega
      subst ei
      rw [List.drop_length] at ec'
      cases ec'
      rw [List.append_nil] at eall
      subst eall
      exact .inl ⟨w.stop G' H' e', q L acc G' H' e' hL nG' hL' ra⟩

def zpO (i : Nat) (f g : EnvS → R D) (k : List D → EnvS → Out) : EnvS → Out := fun ρ => (f ρ).out ρ fun d => (g ρ).out ρ fun d' => match d, d' with
  | .tuple ds, .tuple es => k (zipD ds es) (ρ.set i none)
  | _, _ => .no
section
variable {X : Cx} {W : WX} {wr : List Nat} {pos : Pos}
theorem ss_zipSum {r : List V → Hp → VK → Prop} {kS : List D → R D} {idS : String} {xS : Str} (i : Nat) {y : Str} {e e2 elt : Expr} {elts : List Expr} {kk : Nat} {py p p2 sp p3 p4 p5 tp lp rp : Pos} {scope : Scope} {own : List (Str × Nat)} {vs : List Nat} {f g : EnvS → R D} {h : D → EnvS → R EnvS} {fe : EnvS → R D}
    (hcS : CallR X (.builtin idS) r) (hrS : LstD X r kS) (hmS : X.mg xS = none) (hvS : bootBuiltins xS = some (.builtin idS)) (hm : X.mg "zip" = none) (hN : X.N.Nodup) (ha : PD X W e f) (hb : PD X W e2 g) (ok : BlkOk X.N X.env.scope scope own)
    (hg : ∀ (s : Shared) (H : Hp) (C : Addr) (cl : List (Str × Addr)) (fp : List Addr), PGD (X.blk s H scope (compEnvC scope cl C X.env) fp) wr (.Tuple elts kk tp) h)
    (he : ∀ (s : Shared) (H : Hp) (C : Addr) (cl : List (Str × Addr)) (fp : List Addr), PD (X.blk s H scope (compEnvC scope cl C X.env) fp) W0 elt fe) (hvs : own.map (·.2) = vs := by rfl) (hwr : ∀ i, i ∈ wr → i ∈ vs := by decide) (hc : X.calm = true := by rfl)
    (hi : X.N[i]? = some y := by rfl) (hx : Loc X.env.scope y := by first | exact Or.inl rfl | exact Or.inr rfl) (hv : Vis X.env.scope y := by first | exact Or.inl rfl | exact Or.inr (Or.inl rfl) | exact Or.inr (Or.inr rfl)) (hd : (y == ("__debug__" : Str)) = false := by decide) (hcd : (y == ("__classdict__" : Str)) = false := by decide)
    (hgZ : Gl X "zip" := by rfl) (hgS : Gl X xS := by rfl) (hnS : xS ≠ "__name__" := by decide) (hdS : (xS == ("__debug__" : Str)) = false := by decide) (hs : ∀ x, foldedSetIterable (.Name y p4) X.env x = pure x := by intro _; rfl)
    (hst1 : starEach [e, e2] X.env = (false, eval e X.env) :: starEach [e2] X.env := by rfl) (hst2 : starEach [e2] X.env = (false, eval e2 X.env) :: starEach [] X.env := by rfl) (hpl : (backTo p2 (starEach [e2] X.env)).any (·.1) = false := by rfl)
    (hst3 : starEach [.ListComp elt [⟨.Tuple elts kk tp, .Name y p4, [], 0⟩] scope lp] X.env = (false, eval (.ListComp elt [⟨.Tuple elts kk tp, .Name y p4, [], 0⟩] scope lp) X.env) :: starEach [] X.env := by rfl)
    (hsw : swapsWith (.Call (.Name "zip" p) [e, e2] [] p2) (some (.Name y py)) sp.line X.env = pure false := by rfl) (hf : X.fn y = true ∨ X.env.scope.names.lookup y = some .local := by first | exact .inl rfl | exact .inr rfl) :
    PSsD X W [i] [.Assign [.Name y py] (.Call (.Name "zip" p) [e, e2] [] p2) sp, .Return (some (.Call (.Name xS p3) [.ListComp elt [⟨.Tuple elts kk tp, .Name y p4, [], 0⟩] scope lp] [] p5)) rp] (zpO i f g fun zs => rtO (callF kS (lcF (fun _ => .ok zs) h yesB fe vs))) := by
  have hL := pe_lc (pos := lp) (wi := iZn X i) (g := tG X.K wr h) (tt := tD X.K X.mg W0 rpB yesB) (te := tD X.K X.mg W0 (rpE X.K) fe) hc hN (pi_zn (p := p4) (tpos := tp) (elts := elts) (kk := kk) hi hv hd hcd) ok hg (fun _ _ _ _ _ => ts_nil) he hs
  exact (pss_cons (ps_set hN hi hx (pe_callTy cr_zipT hgZ hm PyProof.Rows.boot_zip (pa_cons ha (pa_cons hb pa_nil hst2) hst1) (by decide) (by decide) hst1 hpl) hsw hf)
    (pss_one (ps_ret (pe_callB hcS hgS hmS hvS (pa_cons hL pa_nil hst3) hnS hdS hst3 rfl)))).wk fun Dd σ H ⟨G0, H0, G, ρ, okk, q⟩ => by
    subst hvs
    unfold zpO at q
    refine outE q okk fun d x G1 H1 _ e1 r1 ok1 q1 => ?_
    refine outE q1 ok1 fun d' x' G2 H2 _ e2 r2 ok2 q2 => ?_
    have r1 := Rp.up r1 e2.gg
    cases d with
    | tuple ds =>
      cases d' with
      | tuple es =>
        obtain ⟨a, xs, rfl, h1, g1, p1⟩ := Rp.seqT r1 e2.sub
        obtain ⟨b, ys, rfl, h2, g2, p2⟩ := Rp.seqT r2 e2.sub
        refine ⟨a, b, xs, ys, rfl, h1, h2, fun m la lb ly hf => ?_⟩
        show tLc (iZn X i) (tG X.K wr h) (tD X.K X.mg W0 rpB yesB) (tD X.K X.mg W0 (rpE X.K) fe) (own.map (·.2)) (σ.set i (some (.ref (m + 4)))) (zipH H2 m a b) (fun x H3 => r [x] H3 Dd.rt)
        refine ⟨m, a, b, H2, ⟨σ, rfl⟩, la, lb, ly, hf, rfl, ?_⟩
        have okc := ok2.cut i (.ref (m + 4))
        have q2 : PostS X.K X.mg W G0 H0 [i] σ ρ G2 (rtO (callF kS (lcF (fun _ => .ok (zipD ds es)) h yesB fe (own.map (·.2)))) (ρ.set i none)) Dd := q2
        unfold rtO callF lcF at q2
        have q2 : PostS X.K X.mg W G0 H0 [i] σ ρ G2 ((((if lineOk (zipD ds es).length then compO h yesB fe (zipD ds es) (wipeS (ρ.set i none) (own.map (·.2))) else .no) : R (List D)).bind kS).out (ρ.set i none) fun d => .rt d) Dd := q2
        by_cases hline : lineOk (zipD ds es).length = true
        · rw [if_pos hline] at q2
          refine tLc_at (X := X) (W := W) (t := yesB) (h := h) (fe := fe) (Q := fun x H3 => r [x] H3 Dd.rt) hwr ok2.ext.sub okc.env hline ?_ _ G2 H2 (.refl ok2.ext.sub) (walk_zipT g1 g2 p1 p2).toH
          cases ec : compO h yesB fe (zipD ds es) (wipeS (ρ.set i none) (own.map (·.2))) with
          | ex x =>
            exact absurd ec (by
              have : ∀ ds : List D, compO h yesB fe ds (wipeS (ρ.set i none) (own.map (·.2))) ≠ .ex x := by
                intro ds
                induction ds with
                | nil => intro z; cases z
                | cons d r ih =>
                  unfold compO
                  intro z
                  split at z
                  · split at z
                    · split at z
                      · split at z <;> cases z
                      · cases z
                    · exact ih z
                    · cases z
                  · cases z
              exact this _)
          | no => rw [ec] at q2; exact q2.elim
          | ok all =>
            rw [ec] at q2
            have q2 : PostS X.K X.mg W G0 H0 [i] σ ρ G2 ((kS all).out (ρ.set i none) fun d => .rt d) Dd := q2
            intro L xs' G3 H3 e3 n1 n2 hL rL
            refine hrS all L xs' G3 H3 (Wxo X.mg W (σ.set i (some (.ref (m + 4))))) Dd.rt e3.sub hL rL ?_
            cases ek : kS all with
            | ok v =>
              rw [ek] at q2
              intro u G4 H4 e4 r4
              exact q2 u G4 H4 ((ok2.ext.trans e3).trans e4) r4
            | ex x =>
              rw [ek] at q2
              intro G4 H4 e4 cc mc
              exact q2 cc _ G4 H4 mc ((okc.step e3).step e4) (e3.gg.trans e4.gg) fr_set
            | no => rw [ek] at q2; exact q2.elim
        · rw [if_neg hline] at q2
          exact q2.elim
      | _ => exact q2.elim
    | _ => exact q2.elim
end
end TD

/-! TdMin: min of pairs of ints. -/
namespace PySem
open Sem (wp)
/-- two items compared while the walk stands -/
def CmpSt (prog : Program) (w : World) (A : Around) (P : Nat → Value → Prop) (St : Nat → Heap → Prop) (bt : Nat → Nat → Bool) : Prop :=
  ∀ i j vi vj (k : Nat) (s : Shared) (Q : Value → Shared → Prop) (E : Value → Shared → Prop), St k s.heap → P i vi → P j vj → Q (.bool (bt i j)) s → wpAny (model prog w) A (richCompare .Lt vi vj) Q E s
section
variable {prog : Program} {w : World} {A : Around} {R : Result → Shared → Prop} {I : Addr} {fp wr : List Addr} {n : Nat} {P : Nat → Value → Prop} {St : Nat → Heap → Prop}
theorem min_loopSt (W : Walks prog w A.in1 I fp wr n P St) (bt : Nat → Nat → Bool) (hcmp : CmpSt prog w A.in1 P St bt) (S : Addr) (hSf : S ∉ fp) :
    ∀ (k j : Nat) (s : Shared) (vb : Value) (c : Nat), n - (j + 1) = k → j + 1 ≤ n → St (j + 1) s.heap → P (argBest bt j) vb →
    s.heap.get? S = some { cls := .type "list", dict := none, data := .seq #[vb, vb] c, slots := #[] } →
    (∀ v h' tk, P (argBest bt (n - 1)) v → (∀ b o, b ∉ wr → b ≠ S → s.heap.get? b = some o → h'.get? b = some o) → R (.ok (.ret v)) { s with heap := h', toks := tk }) →
    codeAny (model prog w) A (.builtin "min.loop" ⟨[.ref I, .none, .ref S], []⟩) R s := by
  have hSw : S ∉ wr := fun h => hSf (W.sub _ h)
  have hname : (toString "min" ++ toString ".loop" : String) = "min.loop" := by decide
  intro k
  induction k with
  | zero =>
    intro j s vb c hk hj hst hPb hS hR
    have hin : j + 1 = n := by omega
    refine codeAny_builtin F.entry_min_loop ?_
    rw [Around.under_plainId F.plain_min_loop _]
    show wpAny _ A.in1 (seqItems? (.ref S) >>= _) _ _ s
    refine wpAny_bind (wpAny_seqItems hS rfl ?_)
    show wpAny _ A.in1 (tryCatch (pyNext (.ref I)) _ >>= _) _ _ s
    refine wpAny_bind (wpAny_tryCatch (W.done s _ _ (hin ▸ hst) fun h' tk hk' => ?_))
    have hS' := hk' S _ hSw hS
    show wpAny _ A.in1 (updateSeq S (fun _ => #[]) >>= _) _ _ _
    refine wpAny_bind ?_
    refine wpAny_updateSeq hS' rfl (wpAny_bind (wpAny_letGo (wpAny_pure ?_)))
    refine hR vb _ tk (by rw [← hin]; exact hPb) fun b o hbw hbS e => (Heap.get?_update_other _ _ (Ne.symm hbS)).trans (hk' b o hbw e)
  | succ k ih =>
    intro j s vb c hk hj hst hPb hS hR
    have hlt : j + 1 < n := by omega
    refine codeAny_builtin F.entry_min_loop ?_
    rw [Around.under_plainId F.plain_min_loop _]
    show wpAny _ A.in1 (seqItems? (.ref S) >>= _) _ _ s
    refine wpAny_bind (wpAny_seqItems hS rfl ?_)
    show wpAny _ A.in1 (tryCatch (pyNext (.ref I)) _ >>= _) _ _ s
    refine wpAny_bind (wpAny_tryCatch (W.item (j + 1) s _ _ hlt hst fun v h' tk hP hst' hk' => ?_))
    have hS' := hk' S _ hSw hS
    show wpAny _ A.in1 (tryCatch (holding [v, v] (richCompare .Lt v vb >>= _)) _ >>= _) _ _ _
    refine wpAny_bind (wpAny_tryCatch (wpAny_holding (wpAny_bind (hcmp (j + 1) (argBest bt j) v vb _ _ _ _ hst' hP hPb ?_))))
    refine wpAny_bind (wpAny_holding (wpAny_truthy_bool ?_))
    refine wpAny_bind (wpAny_letGo (wpAny_pure ?_))
    cases hb : bt (j + 1) (argBest bt j) with
    | true =>
      simp only [if_true]
      refine wpAny_bind ?_
      refine wpAny_updateSeq hS' rfl (wpAny_bind (wpAny_letGo ?_))
      rw [hname]
      refine wpAny_pure ⟨plainId_quiet F.plain_min_loop _, ih (j + 1) _ v _ (by omega) hlt (W.frame _ _ _ hst' fun b hbf o e => ?_) (by simp only [argBest, hb, if_true]; exact hP) (Heap.get?_update_self _ hS' rfl)
        fun v' h'' tk'' hP' hk'' => ?_⟩
      · exact (Heap.get?_update_other _ _ (fun h : S = b => hSf (by rw [h]; exact hbf))).trans e
      · exact hR v' h'' tk'' hP' fun b o hbw hbS e => hk'' b o hbw hbS ((Heap.get?_update_other _ _ (Ne.symm hbS)).trans (hk' b o hbw e))
    | false =>
      simp only [Bool.false_eq_true, if_false]
      refine wpAny_bind (wpAny_letGo ?_)
      rw [hname]
      refine wpAny_pure ⟨plainId_quiet F.plain_min_loop _, ih (j + 1) _ vb c (by omega) hlt hst' (by simp only [argBest, hb, Bool.false_eq_true, if_false]; exact hPb) hS' fun v' h'' tk'' hP' hk'' => ?_⟩
      exact hR v' h'' tk'' hP' fun b o hbw hbS e => hk'' b o hbw hbS (hk' b o hbw e)

theorem min_loopSt_first (W : Walks prog w A.in1 I fp wr n P St) (bt : Nat → Nat → Bool) (hcmp : CmpSt prog w A.in1 P St bt) (S : Addr) (hSf : S ∉ fp) (hn : 0 < n) {s : Shared} {c : Nat} (hst : St 0 s.heap)
    (hS : s.heap.get? S = some { cls := .type "list", dict := none, data := .seq #[] c, slots := #[] })
    (hR : ∀ v h' tk, P (argBest bt (n - 1)) v → (∀ b o, b ∉ wr → b ≠ S → s.heap.get? b = some o → h'.get? b = some o) → R (.ok (.ret v)) { s with heap := h', toks := tk }) :
    codeAny (model prog w) A (.builtin "min.loop" ⟨[.ref I, .none, .ref S], []⟩) R s := by
  have hSw : S ∉ wr := fun h => hSf (W.sub _ h)
  have hname : (toString "min" ++ toString ".loop" : String) = "min.loop" := by decide
  refine codeAny_builtin F.entry_min_loop ?_
  rw [Around.under_plainId F.plain_min_loop _]
  show wpAny _ A.in1 (seqItems? (.ref S) >>= _) _ _ s
  refine wpAny_bind (wpAny_seqItems hS rfl ?_)
  show wpAny _ A.in1 (tryCatch (pyNext (.ref I)) _ >>= _) _ _ s
  refine wpAny_bind (wpAny_tryCatch (W.item 0 s _ _ hn hst fun v h' tk hP hst' hk' => ?_))
  have hS' := hk' S _ hSw hS
  show wpAny _ A.in1 (updateSeq S (fun _ => #[v, v]) >>= _) _ _ _
  refine wpAny_bind ?_
  refine wpAny_updateSeq hS' rfl ?_
  rw [hname]
  refine wpAny_pure ⟨plainId_quiet F.plain_min_loop _, min_loopSt W bt hcmp S hSf _ 0 _ v _ rfl hn (W.frame _ _ _ hst' fun b hbf o e => ?_) hP (Heap.get?_update_self _ hS' rfl) fun v' h'' tk'' hP' hk'' => ?_⟩
  · exact (Heap.get?_update_other _ _ (fun h : S = b => hSf (by rw [h]; exact hbf))).trans e
  · exact hR v' h'' tk'' hP' fun b o hbw hbS e => hk'' b o hbw hbS ((Heap.get?_update_other _ _ (Ne.symm hbS)).trans (hk' b o hbw e))
end

section
variable {prog : Program} {w : World} {A : Around} {E : Value → Shared → Prop} {s : Shared}
theorem min_walkSt {x : Value} {Q : Value → Shared → Prop}
    (h : wpAny (model prog w) A.in1 (pyIter x) (fun it s₂ => ∃ I fp wr n P St bt, it = .ref I ∧ Walks prog w A.in1 I fp wr n P St ∧ St 0 s₂.heap ∧ (∀ b ∈ fp, b < s₂.heap.objs.size) ∧ 0 < n ∧ CmpSt prog w A.in1 P St bt ∧
      ∀ v h' tk, P (argBest bt (n - 1)) v → (∀ b o, b ∉ wr → s₂.heap.get? b = some o → h'.get? b = some o) → Q v { s₂ with heap := h', toks := tk }) E s) :
    wpAny (model prog w) A (call (.builtin "min") [x]) Q E s := by
  have hname : (toString "min" ++ toString ".loop" : String) = "min.loop" := by decide
  refine call_function_tree F.kind_min F.plain_min F.entry_min (F.args_min1 _) ?_
  show wpAny _ A.in1 (Builtin.Builtins.bindParams "min" ["key", "default"] 0 ⟨[], []⟩ >>= _) _ _ s
  refine wpAny_bind (wpAny_of_eq (show Builtin.Builtins.bindParams "min" ["key", "default"] 0 ⟨[], []⟩ = pure [none, none] from rfl) ?_)
  refine wpAny_bind (wpAny_pure ?_)
  refine wpAny_bind (wpAny_mono h (fun it s₂ h₂ => ?_) fun _ _ e => e)
  obtain ⟨I, fp, wr, n, P, St, bt, rfl, W, hst, hfp, hn, hcmp, hQ⟩ := h₂
  refine wpAny_bind (wpAny_newObj_type ?_)
  have hSf : s₂.heap.objs.size ∉ fp := fun hm => Nat.lt_irrefl _ (hfp _ hm)
  rw [hname]
  refine wpAny_pure ⟨plainId_quiet F.plain_min_loop _, min_loopSt_first W bt hcmp s₂.heap.objs.size hSf hn (W.frame _ _ _ hst fun b _ o e => Heap.get?_push_of_some _ e) (Heap.get?_push_size _ rfl) fun v h' tk hP hk => ?_⟩
  exact hQ v h' tk hP fun b o hbw e => hk b o hbw (Nat.ne_of_lt (Heap.lt_size e)) (Heap.get?_push_of_some _ e)
end
end PySem
namespace TD
open PySem PySem.Spec PyProof.Rows L2
/-- a walk, told together with what stands apart from it -/
theorem walks_more {prog : Program} {w : World} {A : Around} {I : Addr} {fp wr : List Addr} {n : Nat} {P : Nat → Value → Prop} {St : Nat → Heap → Prop} (W : Walks prog w A I fp wr n P St) (T : Heap → Prop) (ex : List Addr)
    (hT : ∀ h h', T h → (∀ b ∈ ex, ∀ o, h.get? b = some o → h'.get? b = some o) → T h') (hx : ∀ b ∈ ex, b ∉ wr) : Walks prog w A I (fp ++ ex) wr n P (fun i h => St i h ∧ T h) where
  sub := fun b hb => List.mem_append_left _ (W.sub b hb)
  frame := fun i h h' st hk => ⟨W.frame i h h' st.1 fun b hb => hk b (List.mem_append_left _ hb), hT h h' st.2 fun b hb => hk b (List.mem_append_right _ hb)⟩
  item := fun i s Q E hi st hQ => W.item i s Q E hi st.1 fun v h' tk hP hst hk => hQ v h' tk hP ⟨hst, hT _ _ st.2 fun b hb o e => hk b o (hx b hb) e⟩ hk
  done := fun s Q E st hQ => W.done s Q E st.1 hQ
  self := fun i s Q E st hQ => W.self i s Q E st.1 hQ
def rMinP (X : Cx) : List V → Hp → VK → Prop := fun vs H Q => ∃ (a : Addr) (xs : List V) (kv : Nat → List Int), vs = [.ref a] ∧ (SqL X.K H a xs ∨ SqT X.K H a xs) ∧ xs ≠ [] ∧ (∀ i x, xs[i]? = some x → ∃ t, x = V.ref t ∧ SqT X.K H t ((kv i).map V.int)) ∧
  ∀ x, xs[argBest (fun i j => HT.lexLt (kv i) (kv j)) (xs.length - 1)]? = some x → Q x H
def refOf : Value → Option Addr
  | .ref a => some a
  | _ => none
section
variable {X : Cx}
theorem cr_minP (hc : X.calm = true) (hu : X.A.units + 65 < cLine) : CallR X (.builtin "min") (rMinP X) := by
  intro pins s σ H vs us Q I r h
  obtain ⟨a, xs, kv, rfl, hs, hne, hk, q⟩ := h
  obtain ⟨u, rfl, ru⟩ := vals1 r
  obtain rfl : u = Value.ref a := ru
  have hh : X.A.handled = none := I.ok.hd hc
  have core : ∀ (its : List Value), Vals xs its → ∀ (I0 : Addr) (s₂ : Shared) (fp wr : List Addr) (St : Nat → Heap → Prop), Walks X.prog X.w X.A.in1 I0 fp wr its.toArray.size (fun i v => its.toArray[i]? = some v) St → St 0 s₂.heap → (∀ b ∈ fp, b < s₂.heap.objs.size) → (∀ b ∈ wr, s.heap.objs.size ≤ b) →
      (∀ b o, s.heap.get? b = some o → s₂.heap.get? b = some o) → s₂.os = s.os → s₂.gens = s.gens → s₂.drawn = s.drawn → ∃ (J : Addr) (fp wr : List Addr) (n : Nat) (P : Nat → Value → Prop) (St : Nat → Heap → Prop) (bt : Nat → Nat → Bool), Value.ref I0 = .ref J ∧ Walks X.prog X.w X.A.in1 J fp wr n P St ∧ St 0 s₂.heap ∧ (∀ b ∈ fp, b < s₂.heap.objs.size) ∧ 0 < n ∧ CmpSt X.prog X.w X.A.in1 P St bt ∧
      ∀ v h' tk, P (argBest bt (n - 1)) v → (∀ b o, b ∉ wr → s₂.heap.get? b = some o → h'.get? b = some o) → EP X pins σ Q v { s₂ with heap := h', toks := tk } := by
    intro its rv I0 s₂ fp wr St W st hfp hwr hkp ho hg hd
    let T : Heap → Prop := fun h => ∀ i v, its[i]? = some v → ∃ (b : Addr) (zs : List Value), v = .ref b ∧ IsTup h b zs.toArray ∧ IntsAre zs.toArray.toList (kv i)
    let ex := its.filterMap refOf
    have T0 : T s.heap := fun i v hv => by
      obtain ⟨x, hx, rx⟩ : ∃ x, xs[i]? = some x ∧ RelV x v := by
        have hl := rv.length
        have hi : i < its.length := (List.getElem?_eq_some_iff.mp hv).1
        have hx : xs[i]? = some xs[i] := List.getElem?_eq_getElem (by omega)
        obtain ⟨v', hv', r'⟩ := rv.get hx
        rw [hv] at hv'
        cases hv'
        exact ⟨_, hx, r'⟩
      obtain ⟨t, rfl, ht⟩ := hk i x hx
      cases rx
      obtain ⟨zs, rz, p1, _⟩ := I.tuple ht
      exact ⟨t, zs, rfl, p1, intsAre_of rz⟩
    have hexl : ∀ b ∈ ex, b < s.heap.objs.size := fun b hb => by
      obtain ⟨v, hv, e⟩ := List.mem_filterMap.mp hb
      obtain ⟨i, hi⟩ := List.getElem?_of_mem hv
      obtain ⟨c, zs, rfl, ⟨o, ho, _⟩, _⟩ := T0 i v hi
      cases e
      exact Heap.lt_size ho
    have hT : ∀ h h', T h → (∀ b ∈ ex, ∀ o, h.get? b = some o → h'.get? b = some o) → T h' := fun h h' t hk i v hv => by
      obtain ⟨c, zs, rfl, ⟨o, ho, hr⟩, hi⟩ := t i v hv
      exact ⟨c, zs, rfl, ⟨o, hk c (List.mem_filterMap.mpr ⟨_, List.mem_of_getElem? hv, rfl⟩) o ho, hr⟩, hi⟩
    have hlen := rv.length
    have hpos : 0 < xs.length := List.length_pos_iff.mpr hne
    refine ⟨I0, fp ++ ex, wr, its.toArray.size, _, _, fun i j => HT.lexLt (kv i) (kv j), rfl, walks_more W T ex hT (fun b hb hw => absurd (Nat.lt_of_lt_of_le (hexl b hb) (hwr b hw)) (Nat.lt_irrefl _)), ⟨st, hT _ _ T0 fun b _ o e => hkp b o e⟩, fun b hb => ?_, by simp; omega, ?_, fun v h' tk hP hk' => ?_⟩
    · rcases List.mem_append.mp hb with hb | hb
      · exact hfp b hb
      · have hl := hexl b hb
        obtain ⟨v, hv, e⟩ := List.mem_filterMap.mp hb
        obtain ⟨i, hi⟩ := List.getElem?_of_mem hv
        obtain ⟨c, zs, rfl, ⟨o, ho, _⟩, _⟩ := T0 i v hi
        cases e
        exact Heap.lt_size (hkp _ _ ho)
    · intro i j vi vj k s3 Q3 E3 st3 hi hj hq
      obtain ⟨c1, z1, rfl, p1, i1⟩ := st3.2 i vi (by simpa using hi)
      obtain ⟨c2, z2, rfl, p2, i2⟩ := st3.2 j vj (by simpa using hj)
      exact HT.lt_tupInts p1 p2 i1 i2 (by show X.A.in1.units < cLine; have : X.A.in1.units = X.A.units + 1 := rfl; omega) hq
    · have hv : its[argBest (fun i j => HT.lexLt (kv i) (kv j)) (its.toArray.size - 1)]? = some v := by simpa using hP
      have hsz : its.toArray.size = xs.length := by simp [hlen]
      rw [hsz] at hv
      have hi : argBest (fun i j => HT.lexLt (kv i) (kv j)) (xs.length - 1) < xs.length := by
        have := (List.getElem?_eq_some_iff.mp hv).1
        omega
      have hx := List.getElem?_eq_getElem hi
      obtain ⟨v', hv', r'⟩ := rv.get hx
      rw [hv] at hv'
      cases hv'
      have es : ({ s₂ with heap := h', toks := tk } : Shared) = { s with heap := h', toks := tk } := by
        cases s₂
        cases s
        cases ho
        cases hg
        cases hd
        rfl
      rw [es]
      exact ⟨_, H, I.kept fun b o e => hk' b o (fun hw => absurd (Nat.lt_of_lt_of_le (Heap.lt_size e) (hwr b hw)) (Nat.lt_irrefl _)) (hkp b o e), r', q _ hx⟩
  refine min_walkSt ?_
  rcases hs with hs | hs
  · obtain ⟨its, rv, pl, _⟩ := I.list hs
    refine iter_any pl.isList fun s₂ e st hne => ?_
    subst e
    refine core its rv _ _ _ _ _ (Walks.list (A := X.A.in1) hh _ a hne its.toArray) st (fun b hb => ?_) (fun b hb => ?_) (fun b o e => Heap.get?_push_of_some _ e) rfl rfl rfl
    · show b < (s.heap.push _).objs.size
      rw [Heap.size_push]
      rcases List.mem_cons.mp hb with rfl | hb
      · exact Nat.lt_succ_self _
      · rw [List.mem_singleton.mp hb]; exact Nat.lt_succ_of_lt pl.lt
    · rw [List.mem_singleton.mp hb]; exact Nat.le_refl _
  · obtain ⟨its, rv, pt, _⟩ := I.tuple hs
    obtain ⟨ot, hot, _⟩ := id pt
    have hlt := Heap.lt_size hot
    have ht : s.heap.IsTuple a its.toArray := pt
    refine wpAny_pyIter_tuple ht ?_
    refine core its rv _ _ _ _ _ (Walks.tuple (A := X.A.in1) hh _ a (Nat.ne_of_lt hlt) its.toArray) ⟨⟨_, Heap.get?_push_size _ rfl, rfl, rfl⟩, ht.push _⟩ (fun b hb => ?_) (fun b hb => ?_) (fun b o e => Heap.get?_push_of_some _ e) rfl rfl rfl
    · show b < (s.heap.push _).objs.size
      rw [Heap.size_push]
      rcases List.mem_cons.mp hb with rfl | hb
      · exact Nat.lt_succ_self _
      · rw [List.mem_singleton.mp hb]; exact Nat.lt_succ_of_lt hlt
    · rw [List.mem_singleton.mp hb]; exact Nat.le_refl _
end
end TD

/-! TdK: min of pairs, list.index, join, over data. -/
namespace TD
open PySem PySem.Spec PyProof.Rows L2
def minIx (ps : List (Int × Int)) : Nat := argBest (fun i j => HT.lexLt (keyL (ps.getD i (0, 0))) (keyL (ps.getD j (0, 0)))) (ps.length - 1)
def minPD : D → R D
  | .list ds => match pairsOf ds with
    | some ps => (match ps[minIx ps]? with
      | some p => .ok (prD2 p)
      | none => .no)
    | none => .no
  | .tuple ds => match pairsOf ds with
    | some ps => (match ps[minIx ps]? with
      | some p => .ok (prD2 p)
      | none => .no)
    | none => .no
  | _ => .no
theorem RpAll.pairAt {K : PySem.W.Frag} {G : Hp} {xs : List V} {ps : List (Int × Int)} (r : RpAll K G xs (ps.map prD2)) {i : Nat} {x : V} (h : xs[i]? = some x) : ∃ t, x = V.ref t ∧ SqT K G t ((keyL (ps.getD i (0, 0))).map V.int) ∧ ∃ p, ps[i]? = some p ∧ Rp K G x (prD2 p) := by
  have hl := r.length
  rw [List.length_map] at hl
  have hi : i < xs.length := (List.getElem?_eq_some_iff.mp h).1
  have hd : (ps.map prD2)[i]? = some (prD2 ps[i]) := by rw [List.getElem?_map, List.getElem?_eq_getElem (by omega)]; rfl
  obtain ⟨v, hv, rv⟩ := r.get hd
  rw [h] at hv
  cases hv
  obtain ⟨t, zs, rfl, _, h2, r2⟩ := Rp.seqT rv (.refl G)
  have e : ps.getD i (0, 0) = ps[i] := by rw [List.getD_eq_getElem?_getD, List.getElem?_eq_getElem (by omega)]; rfl
  refine ⟨t, rfl, ?_, ps[i], List.getElem?_eq_getElem (by omega), rv⟩
  rw [e]
  cases r2 with
  | cons a1 a2 => cases a2 with
    | cons a3 a4 => cases a4; cases a1; cases a3; exact h2
def lindexD (ds : List D) (d : D) : R D := if okD d && okD (.list ds) then (match firstEq ds d with
    | some j => .ok (.int (j : Nat))
    | none => .no) else .no
def lixF (f g : EnvS → R D) : EnvS → R D := fun ρ => (f ρ).bind fun d => match d with
  | .list ds => (g ρ).bind (lindexD ds)
  | _ => .no
def strsOf : List D → Option (List Str)
  | [] => some []
  | .str s :: r => (match strsOf r with
    | some ss => some (s :: ss)
    | none => none)
  | _ :: _ => none
theorem strsOf_some : ∀ {ds : List D} {ss : List Str}, strsOf ds = some ss → ds = ss.map .str
  | [], _, h => by cases h; rfl
  | .str s :: r, ss, h => by
    unfold strsOf at h
    split at h
    · rename_i ts e
      cases h
      rw [strsOf_some e]; rfl
    · cases h
  | .int _ :: _, _, h => by cases h
  | .bool _ :: _, _, h => by cases h
  | .none :: _, _, h => by cases h
  | .list _ :: _, _, h => by cases h
  | .tuple _ :: _, _, h => by cases h
  | .dict _ :: _, _, h => by cases h
def joinL (f : EnvS → R D) (g : EnvS → R (List D)) : EnvS → R D := fun ρ => (f ρ).bind fun d => match d with
  | .str a => (g ρ).bind fun ds => (match strsOf ds with
    | some ss => if decide ((ss.map (·.length)).sum + ss.length * a.length ≤ 16777216) then .ok (.str (Txt.join a ss)) else .no
    | none => .no)
  | _ => .no
theorem RpAll.strV {K : PySem.W.Frag} {G : Hp} : ∀ {xs : List V} {ss : List Str}, RpAll K G xs (ss.map PyData.str) → xs = ss.map V.str
  | _, [], .nil => rfl
  | _, s :: ss, .cons a r => by cases a; rw [RpAll.strV r]; rfl
theorem type_list_index' : typeOf (.builtin "list.index") = pure (.type "method_descriptor") := by first | exact PySem.F.type_list_remove | rfl
section
variable {X : Cx} {W : WX} {pos : Pos}
theorem d_minP {e : Expr} {p : Pos} {f : EnvS → R D} (hm : X.mg "min" = none) (hu : X.A.units + 65 < cLine) (ha : PD X W e f) (hc : X.calm = true := by rfl) (hg : Gl X "min" := by rfl)
    (he : starEach [e] X.env = (false, eval e X.env) :: starEach [] X.env := by rfl) : PD X W (.Call (.Name "min" p) [e] [] pos) (un1 minPD f) :=
  (pe_callB (cr_minP hc hu) hg hm boot_min (pa_cons ha pa_nil he) (by decide) (by decide) he rfl).wk fun σ H Q ⟨G, ρ, hs, he, q⟩ => by
    unfold un1 at q
    refine Post.seq q hs he fun a v G1 H1 _ e1 r1 he1 q1 => ?_
    have main : ∀ (t : Addr) (xs : List V) (ps : List (Int × Int)) (p0 : Int × Int), (SqL X.K H1 t xs ∨ SqT X.K H1 t xs) → RpAll X.K G1 xs (ps.map prD2) → ps[minIx ps]? = some p0 → Post (rpE X.K) (Wxo X.mg W σ) G1 H1 (.ok (prD2 p0)) Q → rMinP X [.ref t] H1 Q := fun t xs ps p0 h1 r h2 q2 => by
      have hl := r.length
      rw [List.length_map] at hl
      refine ⟨t, xs, fun i => keyL (ps.getD i (0, 0)), rfl, h1, fun z => ?_, fun i x hx => ?_, fun x hx => ?_⟩
      · subst z
        have := (List.getElem?_eq_some_iff.mp h2).1
        rw [List.length_nil] at hl
        omega
      · obtain ⟨c, rfl, hc, _⟩ := r.pairAt hx
        exact ⟨c, rfl, TD.Same.seqT e1.sub hc⟩
      · obtain ⟨c, rfl, _, p1, hp1, r3⟩ := r.pairAt hx
        have e2 : ps[minIx ps]? = some p1 := by
          unfold minIx
          rw [← hl]
          exact hp1
        rw [h2] at e2
        cases e2
        exact q2 _ G1 H1 (.refl e1.sub) r3
    cases a with
    | list ds =>
      obtain ⟨t, xs, rfl, h1, g1, p1⟩ := r1.seqL e1.sub
      unfold minPD at q1
      dsimp only at q1
      cases ep : pairsOf ds with
      | none => rw [ep] at q1; exact q1.elim
      | some ps =>
        rw [ep] at q1
        dsimp only at q1
        rw [pairsOf_some ep] at p1
        cases e2 : ps[minIx ps]? with
        | none => rw [e2] at q1; exact q1.elim
        | some p0 => rw [e2] at q1; exact main t xs ps p0 (.inl (SqL.of h1)) p1 e2 q1
    | tuple ds =>
      obtain ⟨t, xs, rfl, h1, g1, p1⟩ := r1.seqT e1.sub
      unfold minPD at q1
      dsimp only at q1
      cases ep : pairsOf ds with
      | none => rw [ep] at q1; exact q1.elim
      | some ps =>
        rw [ep] at q1
        dsimp only at q1
        rw [pairsOf_some ep] at p1
        cases e2 : ps[minIx ps]? with
        | none => rw [e2] at q1; exact q1.elim
        | some p0 => rw [e2] at q1; exact main t xs ps p0 (.inr h1) p1 e2 q1
    | _ => exact q1.elim
theorem d_lindex {o e : Expr} {f g : EnvS → R D} {apos cpos : Pos} (hu : X.A.units + 65 < cLine) (ho : PD X W o f) (he : PD X W e g) (hbase : attributeBase o "index" X.env (eval o X.env) = eval o X.env := by rfl)
    (hfew : ((backTo cpos (starEach [e] X.env)).all (fun x => !x.1) && (backToKw cpos (keywordEach [] X.env)).all (fun x => x.1.isSome)
      && decide (([e] : List Expr).length + ([] : List Keyword).length + (if ([] : List Keyword).isEmpty then 0 else 1) < 30)) = true := by rfl)
    (hline : (apos.endLine == cpos.line) = true := by rfl) (hs : starEach [e] X.env = (false, eval e X.env) :: starEach [] X.env := by rfl) (hplain : (backTo cpos (starEach [] X.env)).any (·.1) = false := by rfl) :
    PD X W (.Call (.Attribute o "index" apos) [e] [] cpos) (lixF f g) := (pe_bm PySem.F.plainAttrs_list PySem.F.slot_list_index type_list_index' (mt_indexD hu) ho (pa_cons he pa_nil hs) hbase hfew hline hs hplain).wk fun σ H Q ⟨G, ρ, hs, he, q⟩ => by
  unfold lixF at q
  refine Post.seq q hs he fun a v G1 H1 _ e1 r1 he1 q1 => ?_
  cases a with
  | list ds =>
    obtain ⟨t, xs, rfl, h1, g1, p1⟩ := r1.seqL e1.sub
    refine ⟨.inl ⟨rfl, xs, SqL.of h1⟩, ?_⟩
    refine Post.seq q1 e1.sub he1 fun b u G2 H2 _ e2 r2 he2 q2 => ?_
    unfold lindexD at q2
    split at q2
    · rename_i hk
      rw [Bool.and_eq_true] at hk
      split at q2
      · rename_i j hj
        obtain ⟨z, hz, hzj, hno⟩ := firstEq_some hj
        exact ⟨t, u, b, ds, j, z, rfl, rfl, Rp.dp _ _ ((r1.up e2.gg).up e2.sub) (okD_can hk.2), Rp.dp _ _ (r2.up e2.sub) (okD_can hk.1), hk.2, hk.1, hz, hzj, hno, q2.done e2.sub (.int _)⟩
      · exact q2.elim
    · exact q2.elim
  | _ => exact q1.elim
theorem d_join {o e : Expr} {apos : Pos} {f : EnvS → R D} {g : EnvS → R (List D)} (ho : PD X W o f) (he : PDL X W e g) (hs : starEach [e] X.env = [(false, eval e X.env)] := by rfl) (hbase : attributeBase o "join" X.env (eval o X.env) = eval o X.env := by rfl) (hline : (apos.endLine == pos.line) = true := by rfl) :
    PD X W (.Call (.Attribute o "join" apos) [e] [] pos) (joinL f g) := (pe_join ho he hs hbase hline).wk fun σ H Q ⟨G, ρ, hs, he, q⟩ => by
  unfold joinL at q
  refine Post.seq q hs he fun a v G1 H1 _ e1 r1 he1 q1 => ?_
  cases a with
  | str a =>
    cases r1
    refine ⟨⟨a, rfl⟩, ?_⟩
    refine seqL Post.fin q1 e1.sub he1 fun ds t xs G2 H2 _ e2 h2 r2 he2 q2 => ?_
    split at q2
    · rename_i ss ess
      rw [strsOf_some ess] at r2
      rw [RpAll.strV r2] at h2
      split at q2
      · rename_i hl
        exact ⟨a, t, ss, rfl, rfl, .inl (SqL.of h2), of_decide_eq_true hl, q2.done e2.sub (.str _)⟩
      · exact q2.elim
    · exact q2.elim
  | _ => exact q1.elim
end
end TD

/-! TdSrt: sorted of a tuple of pairs of ints. -/
namespace TD
open PySem PySem.Spec PyProof.Rows L2
def rSortedTu (X : Cx) : List V → Hp → VK → Prop := fun vs H Q => ∃ (a : Addr) (xs : List V), vs = [V.ref a] ∧ SqT X.K H a xs ∧ (∀ x ∈ xs, ∃ (t : Addr) (z : Int × Int), x = V.ref t ∧ SqT X.K H t [.int z.1, .int z.2]) ∧
  ∀ (k : V → Int × Int) (ys : List V) (p : Addr), (∀ (t : Addr) (z : Int × Int), V.ref t ∈ xs → SqT X.K H t [.int z.1, .int z.2] → k (.ref t) = z) → SrtO.Srtd (ltP k) ys → ys.Perm xs → H p = none → Q (.ref p) (upd H p (.lst ys))
section
variable {X : Cx}
open Classical in
theorem cr_sortedTu : CallR X (.builtin "sorted") (rSortedTu X) := by
  intro pins s σ H vs us Q I r h
  obtain ⟨a, xs, rfl, hs, hx, q⟩ := h
  obtain ⟨u, rfl, ru⟩ := vals1 r
  obtain rfl : u = Value.ref a := ru
  obtain ⟨its, rv, pt, hz⟩ := I.tuple hs
  let k : V → Int × Int := fun x => if h : ∃ z : Int × Int, ∃ t, x = V.ref t ∧ SqT X.K H t [.int z.1, .int z.2] then Classical.choose h else (0, 0)
  have hk : ∀ (t : Addr) (z : Int × Int), SqT X.K H t [.int z.1, .int z.2] → k (.ref t) = z := fun t z ht => by
    have ex : ∃ z : Int × Int, ∃ t', V.ref t = V.ref t' ∧ SqT X.K H t' [.int z.1, .int z.2] := ⟨z, t, rfl, ht⟩
    have e : k (.ref t) = Classical.choose ex := dif_pos ex
    obtain ⟨t', e1, e2⟩ := Classical.choose_spec ex
    cases e1
    have e3 := I.tuple_inj e2 ht
    rw [e]
    injection e3 with e4 e5
    injection e5 with e6 _
    injection e4 with e4
    injection e6 with e6
    exact Prod.ext e4 e6
  obtain ⟨e1, e2⟩ := refs_back rv fun x m => by
    obtain ⟨t, _, e, _⟩ := hx x m
    exact ⟨t, e⟩
  refine Calls.call_function_entry PyProof.Rows.kind_sorted PyProof.Rows.plain_sorted PyProof.Rows.entry_sorted (PyProof.Rows.args_sorted1 _) ?_
  unfold Builtin.«sorted»
  refine wpAny_bind (m := checkCount "sorted" 1 1 _) (wpAny_pure ?_)
  obtain ⟨ob, hob, hobc, hn, hobd⟩ := id pt
  refine wpAny_bind (wpAny_collect_seq (A := X.A.in1) a (.inr rfl) hob hobc hobd (fun h' hkp => ?_) (by have := rv.length; simp; omega))
  have hli : its.length = xs.length := rv.length.symm
  have I1 : Inv X pins σ H { s with heap := h' } := I.kept (t' := s.toks) hkp
  show wpAny _ _ _ _ _ { s with heap := h' }
  refine wpAny_bind (wpAny_newList ?_ (by simp; omega))
  have hoL : (h'.push (seqObj "list" its.toArray 0)).get? h'.objs.size = some (seqObj "list" its.toArray 0) := Heap.get?_push_size _ rfl
  show wpAny _ _ _ _ _ { s with heap := h'.push (seqObj "list" its.toArray 0) }
  refine wpAny_bind (wpAny_holding (wpAny_call_entry PyProof.Rows.slot_list_sort ⟨_, hoL, rfl⟩ PyProof.Rows.entry_list_sort
    (SrtO.list_sort_ord (SrtO.swo_lex fun u => k (backV u)) hoL (by omega) (fun hge => SrtO.pairs_sortableO (by omega) (fun v hv => ?_) fun o e => ?_) fun out hs hb => ⟨_, rfl, ?_⟩)
    (PyProof.Rows.args_list_sort _)))
  · obtain ⟨c, rfl⟩ := e2 v hv
    have hm : V.ref c ∈ xs := by rw [e1]; exact List.mem_map.mpr ⟨_, hv, rfl⟩
    obtain ⟨t, z, e, ht⟩ := hx _ hm
    cases e
    obtain ⟨its2, r2, ⟨ot, hot, hc, n, hd⟩, _⟩ := I1.tuple ht
    obtain ⟨u1, u2, rfl, ri, rj⟩ := vals2 r2
    obtain ⟨t1, rfl⟩ := ri
    obtain ⟨t2, rfl⟩ := rj
    have ek : k (backV (.ref c)) = z := hk c _ ht
    rw [ek]
    exact ⟨c, ot, t1, t2, n, rfl, Heap.get?_push_of_some _ hot, hc, hd⟩
  · have e' : some o = some (seqObj "list" its.toArray 0) := e.symm.trans hoL
    cases e'
    intro c
    exact absurd (Value.type.inj c) (by decide)
  · have h3' : ∀ u ∈ out, ∃ a, u = Value.ref a := fun u hu => e2 u (hb.perm.mem_iff.mp hu)
    obtain ⟨e', he'⟩ := PyProof.Rows.sortedHeap_at (vs := its) (out := out.toArray) hoL
    have hperm : (out.map backV).Perm xs := by rw [e1]; exact hb.perm.map backV
    have hsd : SrtO.Srtd (ltP k) (out.map backV) := SrtO.srtd_map hs
    refine wpAny_pure ⟨_, rfl, .ref h'.objs.size, upd H h'.objs.size (.lst (out.map backV)), I1.laid (t' := s.toks) (fun b u e => ?_) (Nat.le_refl _)
      (show ObjOk X.prog X.w _ _ _ (.lst (out.map backV)) from ⟨by rw [hperm.length_eq]; omega, out, e', vals_back h3', he'⟩), rfl, q k _ _ (fun t z _ ht => hk t z ht) hsd hperm (I1.hok.fresh (Nat.le_refl _))⟩
    have hb : b < h'.objs.size := Heap.lt_size e
    rw [PyProof.Rows.sortedHeap_old (Nat.ne_of_lt hb) (by rw [size_push']; exact Nat.lt_succ_of_lt hb)]
    exact Heap.get?_push_of_some _ e
end
def srtT (f : EnvS → R D) : EnvS → R (List D) := fun ρ => (f ρ).bind fun d => match d with
  | .tuple ds => (match pairsOf ds with
    | some ps => .ok ((sortP ps).map prD2)
    | none => .no)
  | _ => .no
section
variable {X : Cx} {W : WX} {pos : Pos}
theorem n_sortT {e : Expr} {p : Pos} {f : EnvS → R D} (hm : X.mg "sorted" = none) (ha : PD X W e f) (hg : Gl X "sorted" := by rfl)
    (he : starEach [e] X.env = (false, eval e X.env) :: starEach [] X.env := by rfl) : PDN X W (.Call (.Name "sorted" p) [e] [] pos) (srtT f) :=
  (pe_callB cr_sortedTu hg hm boot_sorted (pa_cons ha pa_nil he) (by decide) (by decide) he rfl).wk fun σ H Q ⟨G, ρ, hs, he, q⟩ => by
    unfold srtT at q
    refine seqP PostN.fin q hs he fun a v G1 H1 _ e1 r1 he1 q1 => ?_
    cases a with
    | tuple ds =>
      obtain ⟨t, xs, rfl, h1, g1, p1⟩ := r1.seqT e1.sub
      dsimp only at q1
      cases ep : pairsOf ds with
      | none => rw [ep] at q1; exact q1.elim
      | some ps =>
        rw [ep] at q1
        rw [pairsOf_some ep] at p1
        refine ⟨t, xs, rfl, h1, fun x hx => ?_, fun k ys p hk hsd hp hf => ?_⟩
        · obtain ⟨t, z, rfl, ht⟩ := RpAll.ofPairs p1 x hx
          exact ⟨t, z, rfl, TD.Same.seqT e1.sub ht⟩
        · have hk' : ∀ (t : Addr) (z : Int × Int), V.ref t ∈ xs → SqT X.K G1 t [.int z.1, .int z.2] → k (.ref t) = z := fun t z hm ht => hk t z hm (TD.Same.seqT e1.sub ht)
          have e2 : xs.map k = ps := RpAll.keys p1 hk'
          have e3 : ys.map k = sortP ps := sortP_eq (by rw [← e2]; exact hp.map k) (List.pairwise_map.mpr (hsd.imp fun {x y} h => by
            show (!SrtO.lexB (k y) (k x)) = true
            rw [show SrtO.lexB (k y) (k x) = false from h]; rfl))
          have e4 : RpAll X.K G1 ys ((ys.map k).map prD2) := RpAll.fromKeys fun x hx => by
            have hx' := hp.mem_iff.mp hx
            obtain ⟨t, z, rfl, ht⟩ := RpAll.ofPairs p1 x hx'
            exact ⟨t, rfl, by rw [hk' t z hx' ht]; exact ht⟩
          rw [e3] at e4
          exact q1 p ys G1 _ (Ext.newH e1.sub hf) hf (e1.sub.free hf) upd_same e4
    | _ => exact q1.elim
end
end TD

/-! TdRvT: t[::-1] of a tuple. -/
namespace TD
open PySem PySem.Spec PyProof.Rows L2
section
variable {prog : Program} {w : World} {A : Around} {E : Value → Shared → Prop} {s : Shared}
theorem applied_rev {sl : Addr} {vs : Value} {n : Nat} {Q : Int × Int × Nat → Shared → Prop} (hs : s.heap.IsSliceOf sl .none .none vs) (ps : IsPart vs (some (-1)))
    (h : Q ((n : Int) - 1, -1, n) s) : wpAny (model prog w) A (Builtin.Slice.sliceApplied (.ref sl) (pure (n : Int))) Q E s := by
  obtain ⟨os, hos, hcs, hds⟩ := id hs
  unfold Builtin.Slice.sliceApplied Builtin.Slice.sliceFields
  refine wpAny_bind (wpAny_bind (wpAny_field hos hds (x := .none) rfl (wpAny_bind (wpAny_field hos hds (x := .none) rfl (wpAny_bind (wpAny_field hos hds (x := vs) rfl (wpAny_pure ?_)))))))
  refine wpAny_bind (HT.slicePart_ ps ?_)
  show wpAny _ _ (if ((-1 : Int) == 0) = true then _ else _) _ _ s
  rw [if_neg (by decide)]
  refine wpAny_bind (HT.slicePart_ .none (wpAny_bind (HT.slicePart_ .none (wpAny_bind (wpAny_pure ?_)))))
  have e : Builtin.Slice.slicePlaces ((n : Int) - 1) (-1) (-1) = n := by
    unfold Builtin.Slice.slicePlaces
    rw [if_neg (by decide)]
    by_cases h0 : (n : Int) - 1 > -1
    · rw [if_pos h0, show (-(-1) : Int) = 1 by decide, Int.ediv_one]
      omega
    · rw [if_neg h0]
      omega
  show wpAny _ _ (pure ((n : Int) - 1, (-1 : Int), Builtin.Slice.slicePlaces ((n : Int) - 1) (-1) (-1))) _ _ s
  rw [e]
  exact wpAny_pure h
theorem fmap_congr {α β : Type} {f g : α → Option β} : ∀ {l : List α}, (∀ x ∈ l, f x = g x) → l.filterMap f = l.filterMap g
  | [], _ => rfl
  | a :: l, h => by
    have e := fmap_congr (fun x hx => h x (List.mem_cons_of_mem _ hx)) (l := l)
    rw [List.filterMap_cons, List.filterMap_cons, h a List.mem_cons_self, e]
theorem pick_rev (xs : Array Value) : ((List.range xs.size).filterMap fun (m : Nat) => xs[(((xs.size : Int) - 1) + (m : Int) * (-1)).toNat]?).toArray = xs.toList.reverse.toArray := by
  have e : (List.range xs.size).filterMap (fun (m : Nat) => xs[(((xs.size : Int) - 1) + (m : Int) * (-1)).toNat]?) = ((List.range xs.size).map fun k => xs.size - 1 - k).filterMap (xs[·]?) := by
    rw [List.filterMap_map]
    refine fmap_congr fun m hm => ?_
    have := List.mem_range.mp hm
    have e2 : (((xs.size : Int) - 1) + (m : Int) * (-1)).toNat = xs.size - 1 - m := by omega
    rw [e2]
    rfl
  rw [e, PySem.W.krv_range, List.filterMap_reverse, PySem.W.krv_all]
theorem getItem_tuple_rev {t sl : Addr} {items : Array Value} {vs : Value} {Q : Value → Shared → Prop} (ht : IsTup s.heap t items) (hs : s.heap.IsSliceOf sl .none .none vs) (ps : IsPart vs (some (-1)))
    (h : Q (.ref s.heap.objs.size) { s with heap := s.heap.push { cls := .type "tuple", data := .seq items.toList.reverse.toArray } })
    (hsz : items.size ≤ sizeLine) : wpAny (model prog w) A (getItem (.ref t) (.ref sl)) Q E s := by
  have htake : sizeOk (.seq items.toList.reverse.toArray) := by
    show items.toList.reverse.toArray.size ≤ sizeLine
    rw [List.size_toArray, List.length_reverse, Array.length_toList]
    omega
  obtain ⟨os, hos, hcs, hds⟩ := id hs
  have hTs : s.TypeIs (.ref sl) "slice" := ⟨os, hos, hcs⟩
  unfold getItem
  try with_reducible refine wpAny_holding ?_
  first | refine wpAny_bind (wpAny_pure ?_) | skip
  refine wpAny_bind (wpAny_sequenceKey ht.typeIs (by decide) ?_)
  refine wpAny_bind (wpAny_callSpecial?_slot (name := Str.ofString "__getitem__") ht.typeIs PyProof.Rows.slot_tuple_getitem
    (wpAny_call_entry PyProof.Rows.slot_tuple_getitem ht.typeIs entry_tuple_getitem ?_ (args_tuple_getitem _ _)))
  show wpAny _ _ (Builtin.Tuple.tupleItemsOf (.ref t) >>= _) _ _ s
  refine wpAny_bind (tupleItemsOf_ ht ?_)
  refine wpAny_bind (wpAny_typeOf hTs ?_)
  rw [if_pos (by decide)]
  refine wpAny_bind (applied_rev hs ps ?_)
  have hno : ¬ ((((items.size : Int) - 1) == 0 && (-1 : Int) == 1 && items.size == items.size) = true) := by
    intro q
    rw [Bool.and_eq_true, Bool.and_eq_true] at q
    exact absurd q.1.2 (by decide)
  show wpAny _ _ (if (((items.size : Int) - 1) == 0 && (-1 : Int) == 1 && items.size == items.size) = true then _ else _) _ _ s
  rw [if_neg hno, pick_rev]
  first
    | exact wpAny_bind (m := Builtin.Tuple.tupleExact _) (wpAny_newObj_type (wpAny_pure ⟨_, rfl, wpAny_pure h⟩) htake)
    | exact wpAny_bind (m := Builtin.Tuple.tupleExact _) (wpAny_newObj_type (wpAny_bind (wpAny_pure (wpAny_pure ⟨_, rfl, wpAny_pure h⟩))) htake)
    | exact wpAny_bind (wpAny_bind (m := Builtin.Tuple.tupleExact _) (wpAny_newObj_type (wpAny_pure (wpAny_pure ⟨_, rfl, wpAny_pure h⟩)) htake))
    | exact wpAny_bind (wpAny_bind (m := Builtin.Tuple.tupleExact _) (wpAny_newObj_type (wpAny_pure ⟨_, rfl, wpAny_pure h⟩) htake))
end
section
variable {X : Cx} {W : WX}
def tRevT (K : PySem.W.Frag) (te : TE) : TE := fun σ H Q => te σ H fun x H1 => ∃ a xs, x = .ref a ∧ SqT K H1 a xs ∧ ∀ p, H1 p = none → Q (.ref p) (upd H1 p (.tup xs.reverse))
theorem pe_revT {e : Expr} {te : TE} {k : Nat} {p1 p2 p3 pos : Pos} (he : PE X e te) : PE X (.Subscript e (.Slice none none (some (.UnaryOp .USub (.Constant (.int 1) k p1) p2)) p3) pos) (tRevT X.K te) := by
  refine ⟨fun pins s σ H Q I h => ?_⟩
  refine Subscript_ (thn (he.run pins s σ H _ I h) fun v s1 ⟨x, H1, I1, r1, q1⟩ => ?_)
  obtain ⟨a, xs, ex, hx, q⟩ := q1
  subst ex
  cases r1
  have hst : PO X (some (.UnaryOp .USub (.Constant (.int 1) k p1) p2)) (tPart (tUn (rU fun i => .int (-i)) (tC (.int 1)))) := po_some (pe_un un_neg pe_int)
  refine wpAny_Slice (thn (po_none.run pins s1 σ H1 (fun o H2 => o = none ∧ H2 = H1) I1 ⟨rfl, rfl⟩) fun vl s2 ⟨l, H2, I2, pl, el, e2⟩ => ?_)
  subst el e2
  refine thn (po_none.run pins s2 σ H2 (fun o H3 => o = none ∧ H3 = H2) I2 ⟨rfl, rfl⟩) fun vu s3 ⟨u, H3, I3, pu, eu, e3⟩ => ?_
  subst eu e3
  refine thn (hst.run pins s3 σ H3 (fun o H4 => o = some (-1) ∧ H4 = H3) I3 ⟨1, rfl, -1, rfl, rfl, rfl⟩) fun vs s4 ⟨o, H4, I4, ps, eo, e4⟩ => ?_
  subst eo e4
  cases pl
  cases pu
  have I5 : Inv X pins σ H4 { s4 with heap := s4.heap.push { cls := .type "slice", data := .fields #[.none, .none, vs] } } := I4.kept (t' := s4.toks) fun b ob q => Heap.get?_push_of_some _ q
  obtain ⟨its, r, ht, hz⟩ := I5.tuple hx
  have hlen := r.length
  show wpAny (model X.prog X.w) X.A (subscriptTail e (.Slice none none (some (.UnaryOp .USub (.Constant (.int 1) k p1) p2)) p3) (.ref a) (.ref s4.heap.objs.size)) (EP X pins σ Q) X.xe { s4 with heap := s4.heap.push { cls := .type "slice", data := .fields #[.none, .none, vs] } }
  refine tail_any (ops := [.ref a, .ref s4.heap.objs.size]) ht.typeIs PyProof.Rows.slot_tuple_getitem.lookup ?_ (by with_unfolding_all rfl)
  refine getItem_tuple_rev ht (Heap.IsSliceOf.new _ .none .none vs) ps ?_ (by rw [List.size_toArray]; omega)
  refine ⟨.ref _, _, I5.laid (t' := s4.toks) (o := .tup xs.reverse) (fun b ob q => Heap.get?_push_of_some _ q) (Nat.le_refl _) ?_, rfl, q _ (I5.hok.fresh (Nat.le_refl _))⟩
  exact ⟨by rw [List.length_reverse]; exact hz, _, r.reverse, IsTup.new _ _⟩
def revT (f : EnvS → R D) : EnvS → R D := fun ρ => (f ρ).bind fun d => match d with
  | .tuple ds => .ok (.tuple ds.reverse)
  | _ => .no
theorem d_revT {e : Expr} {k : Nat} {p1 p2 p3 pos : Pos} {f : EnvS → R D} (he : PD X W e f) : PD X W (.Subscript e (.Slice none none (some (.UnaryOp .USub (.Constant (.int 1) k p1) p2)) p3) pos) (revT f) :=
  (pe_revT he).wk fun σ H Q ⟨G, ρ, hs, he, q⟩ => by
    unfold revT at q
    refine Post.seq q hs he fun a v G1 H1 _ e1 r1 he1 q1 => ?_
    cases a with
    | tuple ds =>
      obtain ⟨t, xs, rfl, h1, g1, p1⟩ := r1.seqT e1.sub
      refine ⟨t, xs, rfl, h1, fun p hp => ?_⟩
      have e := Ext.new (o := .tup xs.reverse) e1.sub hp
      exact q1 _ _ _ e (.tup (SqT.of upd_same) (p1.reverse.up e.gg))
    | _ => exact q1.elim
end
end TD

namespace Dn
open PySem PySem.Spec PyProof.Rows L2 TD
def c_FORM : D := (.tuple [(.str "form")])
noncomputable def b__law_draws : EnvS → Out :=
  (sqO (owO 2 (newD nilA))
  (sqO (stO 3 (cD (.int 7)))
  (sqO (loO (seqF (lstF (slcL (asSF (varD 0)) noP (someP (cD (.int 63)))))) (nmG 4)
  (sqO (stO 5 (callF absK (consA (varD 4) nilA)))
  (sqO (stO 3 (bin2 modD (callF intG (consA (bin2 addD (bin2 addD (bin2 mulD (varD 3) (cD (.int 48271))) (varD 5)) (cD (.int 11))) nilA)) (cD (.int 2147483647))))
  (ifO (asF (bin2 geD (varD 5) (bin2 powD (cD (.int 10)) (cD (.int 18)))))
  (loO (rng1F (cD (.int 60))) (nmG 6)
  (ifO (asF (bin2 gtD (varD 5) (cD (.int 0))))
  (sqO (appO 2 (bin2 modD (callF intG (consA (varD 5) nilA)) (cD (.int 1009))))
  (stO 5 (bin2 fdivD (varD 5) (cD (.int 1009)))))
  nxO))
  (appO 2 (bin2 modD (bin2 fdivD (callF intG (consA (bin2 addD (bin2 mulD (varD 3) (cD (.int 16807))) (cD (.int 5))) nilA)) (cD (.int 3))) (cD (.int 65521))))))))
  (sqO (loO (rng1F (varD 1)) (nmG 6)
  (ifO (asF (bin2 ltD (callF (fun ds => .ok (.int ds.length)) (ownD 2)) (varD 1)))
  (sqO (stO 3 (bin2 modD (callF intG (consA (bin2 addD (bin2 addD (bin2 mulD (varD 3) (cD (.int 69621))) (varD 6)) (cD (.int 1))) nilA)) (cD (.int 2147483647))))
  (appO 2 (bin2 modD (bin2 fdivD (callF intG (consA (varD 3) nilA)) (cD (.int 7))) (cD (.int 65521)))))
  nxO))
  (rtO (lstF (slcL (ownD 2) noP (someP (varD 1)))))))))
noncomputable def v__law_draws : List D → R D := fnR 7 b__law_draws
noncomputable def b_turn : EnvS → Out :=
  (rtO (bin2 subD (bin2 mulD (bin2 subD (bin2 ixD (varD 1) (cD (.int 0))) (bin2 ixD (varD 0) (cD (.int 0)))) (bin2 subD (bin2 ixD (varD 2) (cD (.int 1))) (bin2 ixD (varD 1) (cD (.int 1))))) (bin2 mulD (bin2 subD (bin2 ixD (varD 1) (cD (.int 1))) (bin2 ixD (varD 0) (cD (.int 1)))) (bin2 subD (bin2 ixD (varD 2) (cD (.int 0))) (bin2 ixD (varD 1) (cD (.int 0)))))))
noncomputable def v_turn : List D → R D := fnR 3 b_turn
noncomputable def b__is_round : EnvS → Out :=
  (sqO (stO 2 (callF lenK (consA (varD 0) nilA)))
  (sqO (unO (tupD (consA (bin2 ixD (varD 0) (bin2 subD (varD 1) (cD (.int 1)))) (consA (bin2 ixD (varD 0) (varD 1)) (consA (bin2 ixD (varD 0) (bin2 modD (bin2 addD (varD 1) (cD (.int 1))) (varD 2))) nilA)))) (tupG 3 (consG (nmG 3) (consG (nmG 4) (consG (nmG 5) nilG)))))
  (sqO (ifO (asF (bin2 leD (callU 3 v_turn (consA (varD 3) (consA (varD 4) (consA (varD 5) nilA)))) (cD (.int 0))))
  (rtO (cD (.bool false)))
  nxO)
  (rtO (callF allK (lcF (seqF (varD 0)) (nmG 6) (asF (bin2 notInG (varD 6) (tupD (consA (varD 3) (consA (varD 4) nilA))))) (bin2 gtD (callU 3 v_turn (consA (varD 3) (consA (varD 4) (consA (varD 6) nilA)))) (cD (.int 0))) [6]))))))
noncomputable def v__is_round : List D → R D := fnR 7 b__is_round
noncomputable def b_is_integer : EnvS → Out :=
  (rtO (andV (isiD "int" (varD 0)) (notV (isiD "bool" (varD 0)))))
noncomputable def v_is_integer : List D → R D := fnR 1 b_is_integer
noncomputable def b_is_whole : EnvS → Out :=
  (rtO (andV (callU 1 v_is_integer (consA (varD 0) nilA)) (chD leD leD (varD 1) (varD 0) (varD 2))))
noncomputable def v_is_whole : List D → R D := fnR 3 b_is_whole
noncomputable def b_is_corner : EnvS → Out :=
  (sqO (ifO (orB (notB (asF (isiD "tuple" (varD 0)))) (asF (bin2 neD (callF lenK (consA (varD 0) nilA)) (cD (.int 2)))))
  (rtO (cD (.bool false)))
  nxO)
  (rtO (callF allK (lcF (seqF (varD 0)) (nmG 1) yesB (callU 3 v_is_whole (consA (varD 1) (consA (bin2 subD (cD (.int 0)) (cD (.int 30))) (consA (cD (.int 30)) nilA)))) [1]))))
noncomputable def v_is_corner : List D → R D := fnR 2 b_is_corner
noncomputable def b_shape_fault : EnvS → Out :=
  (sqO (ifO (orB (notB (asF (isiD "tuple" (varD 0)))) (notB (asF (chD leD leD (cD (.int 3)) (callF lenK (consA (varD 0) nilA)) (cD (.int 8))))))
  (rtO (cD c_FORM))
  nxO)
  (sqO (ifO (notB (asF (callF allK (lcF (seqF (varD 0)) (nmG 2) yesB (callU 1 v_is_corner (consA (varD 2) nilA)) [2]))))
  (rtO (cD c_FORM))
  nxO)
  (sqO (ifO (asF (bin2 neD (bin2 ixD (varD 0) (cD (.int 0))) (un1 minPD (varD 0))))
  (rtO (tupD (consA (cD (.str "first")) nilA)))
  nxO)
  (sqO (loO (rng1F (callF lenK (consA (varD 0) nilA))) (nmG 1)
  (ifO (notB (asF (callU 2 v__is_round (consA (varD 0) (consA (varD 1) nilA)))))
  (rtO (tupD (consA (cD (.str "corner")) (consA (varD 1) nilA))))
  nxO))
  (rtO (cD .none))))))
noncomputable def v_shape_fault : List D → R D := fnR 3 b_shape_fault
noncomputable def b_check_shape : EnvS → Out :=
  (ifO (asF (bin2 notND (callU 1 v_shape_fault (consA (varD 0) nilA)) (cD .none)))
  (fun ρ => .ex "BadShape" ρ)
  nxO)
noncomputable def v_check_shape : List D → R D := fnR 1 b_check_shape
noncomputable def b__half : EnvS → Out :=
  (sqO (owO 1 (newD nilA))
  (sqO (loO (seqF (varD 0)) (nmG 2)
  (sqO (whX (andB (asF (bin2 gtD (callF (fun ds => .ok (.int ds.length)) (ownD 1)) (cD (.int 1)))) (asF (bin2 leD (callU 3 v_turn (consA (ixL (ownD 1) (un1 negD (cD (.int 2)))) (consA (ixL (ownD 1) (un1 negD (cD (.int 1)))) (consA (varD 2) nilA)))) (cD (.int 0)))))
  (popO 1))
  (appO 1 (varD 2))))
  (fun ρ => (ownD 1 ρ).out ρ fun ds => .rt (.list ds))))
noncomputable def v__half : List D → R D := fnR 3 b__half
noncomputable def b_around : EnvS → Out :=
  (sqO (stO 1 (lstF (sdcL (lcF (seqF (varD 0)) (nmG 2) yesB (varD 2) [2]))))
  (rtO (callF tupK (consA (bin2 addD (slcG (callU 1 v__half (consA (varD 1) nilA)) noP (someP (un1 negD (cD (.int 1))))) (slcG (callU 1 v__half (consA (lstF (revL (asLF (varD 1)))) nilA)) noP (someP (un1 negD (cD (.int 1)))))) nilA))))
noncomputable def v_around : List D → R D := fnR 3 b_around
noncomputable def b_apart_by : EnvS → Out :=
  (rtO (callU 1 v_around (consA (lstF (lc2F (seqF (varD 0)) (nmG 2) (seqF (varD 1)) (nmG 3) (tupD (consA (bin2 subD (bin2 ixD (varD 2) (cD (.int 0))) (bin2 ixD (varD 3) (cD (.int 0)))) (consA (bin2 subD (bin2 ixD (varD 2) (cD (.int 1))) (bin2 ixD (varD 3) (cD (.int 1)))) nilA))) [2, 3] [3])) nilA)))
noncomputable def v_apart_by : List D → R D := fnR 4 b_apart_by
noncomputable def b_apart_corners : EnvS → Out :=
  (sqO (exO (callU 1 v_check_shape (consA (varD 0) nilA)))
  (sqO (exO (callU 1 v_check_shape (consA (varD 1) nilA)))
  (rtO (callU 2 v_apart_by (consA (varD 0) (consA (varD 1) nilA))))))
noncomputable def v_apart_corners : List D → R D := fnR 2 b_apart_corners
noncomputable def b__law_shape : EnvS → Out :=
  (sqO (par3O 1 2 3 (consA (bin2 modD (callF intG (consA (bin2 ixD (varD 0) (cD (.int 0))) nilA)) (cD (.int 8))) (consA (bin2 addD (cD (.int 2)) (bin2 modD (callF intG (consA (bin2 ixD (varD 0) (cD (.int 1))) nilA)) (cD (.int 3)))) (consA (bin2 addD (cD (.int 2)) (bin2 modD (callF intG (consA (bin2 ixD (varD 0) (cD (.int 2))) nilA)) (cD (.int 3)))) nilA))))
  (sqO (ifO (asF (bin2 ltD (varD 1) (cD (.int 2))))
  (rtO (tupD (consA (tupD (consA (cD (.int 0)) (consA (cD (.int 0)) nilA))) (consA (tupD (consA (varD 2) (consA (cD (.int 0)) nilA))) (consA (tupD (consA (varD 2) (consA (varD 3) nilA))) (consA (tupD (consA (cD (.int 0)) (consA (varD 3) nilA))) nilA))))))
  nxO)
  (sqO (ifO (asF (bin2 eqD (varD 1) (cD (.int 2))))
  (rtO (tupD (consA (tupD (consA (cD (.int 0)) (consA (cD (.int 0)) nilA))) (consA (tupD (consA (varD 2) (consA (cD (.int 0)) nilA))) (consA (tupD (consA (cD (.int 0)) (consA (varD 3) nilA))) nilA)))))
  nxO)
  (sqO (ifO (asF (bin2 eqD (varD 1) (cD (.int 3))))
  (rtO (tupD (consA (tupD (consA (cD (.int 0)) (consA (cD (.int 0)) nilA))) (consA (tupD (consA (varD 2) (consA (bin2 subD (cD (.int 0)) (cD (.int 1))) nilA))) (consA (tupD (consA (bin2 addD (varD 2) (cD (.int 1))) (consA (varD 3) nilA))) nilA)))))
  nxO)
  (sqO (ifO (asF (bin2 eqD (varD 1) (cD (.int 4))))
  (rtO (tupD (consA (tupD (consA (cD (.int 0)) (consA (cD (.int 0)) nilA))) (consA (tupD (consA (cD (.int 1)) (consA (bin2 subD (cD (.int 0)) (cD (.int 1))) nilA))) (consA (tupD (consA (cD (.int 2)) (consA (cD (.int 0)) nilA))) (consA (tupD (consA (cD (.int 1)) (consA (cD (.int 1)) nilA))) nilA))))))
  nxO)
  (sqO (ifO (asF (bin2 eqD (varD 1) (cD (.int 5))))
  (rtO (tupD (consA (tupD (consA (cD (.int 0)) (consA (cD (.int 0)) nilA))) (consA (tupD (consA (cD (.int 1)) (consA (un1 negD (cD (.int 1))) nilA))) (consA (tupD (consA (varD 2) (consA (un1 negD (cD (.int 1))) nilA))) (consA (tupD (consA (bin2 addD (varD 2) (cD (.int 1))) (consA (cD (.int 0)) nilA))) (consA (tupD (consA (varD 2) (consA (bin2 subD (varD 3) (cD (.int 1))) nilA))) (consA (tupD (consA (cD (.int 1)) (consA (bin2 subD (varD 3) (cD (.int 1))) nilA))) nilA))))))))
  nxO)
  (rtO (ifD (asF (bin2 eqD (varD 1) (cD (.int 6)))) (tupD (consA (tupD (consA (cD (.int 0)) (consA (cD (.int 0)) nilA))) (consA (tupD (consA (varD 2) (consA (cD (.int 0)) nilA))) (consA (tupD (consA (bin2 addD (varD 2) (cD (.int 1))) (consA (varD 3) nilA))) (consA (tupD (consA (cD (.int 1)) (consA (varD 3) nilA))) nilA))))) (tupD (consA (tupD (consA (cD (.int 0)) (consA (cD (.int 0)) nilA))) (consA (tupD (consA (varD 2) (consA (un1 negD (cD (.int 1))) nilA))) (consA (tupD (consA (varD 2) (consA (varD 3) nilA))) (consA (tupD (consA (cD (.int 1)) (consA (bin2 addD (varD 3) (cD (.int 1))) nilA))) nilA)))))))))))))
noncomputable def v__law_shape : List D → R D := fnR 4 b__law_shape
noncomputable def b_divisor : EnvS → Out :=
  (sqO (parO 0 1 (consA (callF absK (consA (varD 0) nilA)) (consA (callF absK (consA (varD 1) nilA)) nilA)))
  (sqO (whX (asF (bin2 gtD (varD 1) (cD (.int 0))))
  (parO 0 1 (consA (varD 1) (consA (bin2 modD (varD 0) (varD 1)) nilA))))
  (rtO (varD 0))))
noncomputable def v_divisor : List D → R D := fnR 2 b_divisor
noncomputable def b_sides_by : EnvS → Out :=
  (sqO (owO 1 (newD nilA))
  (sqO (loO (enuA (varD 0)) (tupG 2 (consG (nmG 2) (consG (nmG 3) nilG)))
  (sqO (stO 4 (bin2 ixD (varD 0) (bin2 modD (bin2 addD (varD 2) (cD (.int 1))) (callF lenK (consA (varD 0) nilA)))))
  (sqO (parO 5 6 (consA (bin2 subD (bin2 ixD (varD 4) (cD (.int 0))) (bin2 ixD (varD 3) (cD (.int 0)))) (consA (bin2 subD (bin2 ixD (varD 4) (cD (.int 1))) (bin2 ixD (varD 3) (cD (.int 1)))) nilA)))
  (sqO (stO 7 (callU 2 v_divisor (consA (varD 5) (consA (varD 6) nilA))))
  (sqO (stO 8 (tupD (consA (bin2 fdivD (varD 6) (varD 7)) (consA (bin2 subD (cD (.int 0)) (bin2 fdivD (varD 5) (varD 7))) nilA))))
  (appO 1 (tupD (consA (varD 8) (consA (bin2 addD (bin2 mulD (bin2 ixD (varD 8) (cD (.int 0))) (bin2 ixD (varD 3) (cD (.int 0)))) (bin2 mulD (bin2 ixD (varD 8) (cD (.int 1))) (bin2 ixD (varD 3) (cD (.int 1))))) nilA)))))))))
  (rtO (callF (fun ds => .ok (.tuple ds)) (ownD 1)))))
noncomputable def v_sides_by : List D → R D := fnR 9 b_sides_by
noncomputable def b_sides_of : EnvS → Out :=
  (sqO (exO (callU 1 v_check_shape (consA (varD 0) nilA)))
  (rtO (callU 1 v_sides_by (consA (varD 0) nilA))))
noncomputable def v_sides_of : List D → R D := fnR 1 b_sides_of
noncomputable def b_is_number : EnvS → Out :=
  (sqO (ifO (orB (notB (asF (isiD "tuple" (varD 0)))) (orB (asF (bin2 neD (callF lenK (consA (varD 0) nilA)) (cD (.int 2)))) (orB (notB (asF (callU 1 v_is_integer (consA (bin2 ixD (varD 0) (cD (.int 0))) nilA)))) (notB (asF (callU 1 v_is_integer (consA (bin2 ixD (varD 0) (cD (.int 1))) nilA)))))))
  (rtO (cD (.bool false)))
  nxO)
  (rtO (andV (bin2 geD (bin2 ixD (varD 0) (cD (.int 1))) (cD (.int 1))) (bin2 eqD (callU 2 v_divisor (consA (bin2 ixD (varD 0) (cD (.int 0))) (consA (bin2 ixD (varD 0) (cD (.int 1))) nilA))) (cD (.int 1))))))
noncomputable def v_is_number : List D → R D := fnR 1 b_is_number
noncomputable def b_is_point : EnvS → Out :=
  (rtO (andV (isiD "tuple" (varD 0)) (andV (bin2 eqD (callF lenK (consA (varD 0) nilA)) (cD (.int 2))) (andV (callU 1 v_is_number (consA (bin2 ixD (varD 0) (cD (.int 0))) nilA)) (callU 1 v_is_number (consA (bin2 ixD (varD 0) (cD (.int 1))) nilA))))))
noncomputable def v_is_point : List D → R D := fnR 1 b_is_point
noncomputable def b_check_points : EnvS → Out :=
  (ifO (notB (asF (callF allK (lcF (seqF (varD 0)) (nmG 1) yesB (callU 1 v_is_point (consA (varD 1) nilA)) [1]))))
  (fun ρ => .ex "BadPoint" ρ)
  nxO)
noncomputable def v_check_points : List D → R D := fnR 2 b_check_points
noncomputable def b_order : EnvS → Out :=
  (sqO (stO 2 (bin2 subD (bin2 mulD (bin2 ixD (varD 0) (cD (.int 0))) (bin2 ixD (varD 1) (cD (.int 1)))) (bin2 mulD (bin2 ixD (varD 1) (cD (.int 0))) (bin2 ixD (varD 0) (cD (.int 1))))))
  (rtO (ifD (asF (bin2 eqD (varD 2) (cD (.int 0)))) (cD (.int 0)) (ifD (asF (bin2 gtD (varD 2) (cD (.int 0)))) (cD (.int 1)) (un1 negD (cD (.int 1)))))))
noncomputable def v_order : List D → R D := fnR 3 b_order
noncomputable def b_made : EnvS → Out :=
  (sqO (stO 2 (callU 2 v_divisor (consA (varD 0) (consA (varD 1) nilA))))
  (sqO (ifO (asF (bin2 ltD (varD 1) (cD (.int 0))))
  (stO 2 (bin2 subD (cD (.int 0)) (varD 2)))
  nxO)
  (rtO (tupD (consA (bin2 fdivD (varD 0) (varD 2)) (consA (bin2 fdivD (varD 1) (varD 2)) nilA))))))
noncomputable def v_made : List D → R D := fnR 3 b_made
noncomputable def b_sum_of : EnvS → Out :=
  (rtO (callU 2 v_made (consA (bin2 addD (bin2 mulD (bin2 ixD (varD 0) (cD (.int 0))) (bin2 ixD (varD 1) (cD (.int 1)))) (bin2 mulD (bin2 ixD (varD 1) (cD (.int 0))) (bin2 ixD (varD 0) (cD (.int 1))))) (consA (bin2 mulD (bin2 ixD (varD 0) (cD (.int 1))) (bin2 ixD (varD 1) (cD (.int 1)))) nilA))))
noncomputable def v_sum_of : List D → R D := fnR 2 b_sum_of
noncomputable def b_product : EnvS → Out :=
  (rtO (callU 2 v_made (consA (bin2 mulD (bin2 ixD (varD 0) (cD (.int 0))) (bin2 ixD (varD 1) (cD (.int 0)))) (consA (bin2 mulD (bin2 ixD (varD 0) (cD (.int 1))) (bin2 ixD (varD 1) (cD (.int 1)))) nilA))))
noncomputable def v_product : List D → R D := fnR 2 b_product
noncomputable def b_dot_by : EnvS → Out :=
  (rtO (callU 2 v_sum_of (consA (callU 2 v_product (consA (bin2 ixD (varD 0) (cD (.int 0))) (consA (bin2 ixD (varD 1) (cD (.int 0))) nilA))) (consA (callU 2 v_product (consA (bin2 ixD (varD 0) (cD (.int 1))) (consA (bin2 ixD (varD 1) (cD (.int 1))) nilA))) nilA))))
noncomputable def v_dot_by : List D → R D := fnR 2 b_dot_by
noncomputable def b_whole_way : EnvS → Out :=
  (rtO (tupD (consA (tupD (consA (bin2 ixD (varD 0) (cD (.int 0))) (consA (cD (.int 1)) nilA))) (consA (tupD (consA (bin2 ixD (varD 0) (cD (.int 1))) (consA (cD (.int 1)) nilA))) nilA))))
noncomputable def v_whole_way : List D → R D := fnR 1 b_whole_way
noncomputable def b_where_by : EnvS → Out :=
  (sqO (stO 2 (cD (.str "in")))
  (sqO (loO (seqF (varD 0)) (tupG 2 (consG (nmG 3) (consG (nmG 4) nilG)))
  (sqO (stO 5 (callU 2 v_order (consA (callU 2 v_dot_by (consA (callU 1 v_whole_way (consA (varD 3) nilA)) (consA (varD 1) nilA))) (consA (tupD (consA (varD 4) (consA (cD (.int 1)) nilA))) nilA))))
  (sqO (ifO (asF (bin2 gtD (varD 5) (cD (.int 0))))
  (rtO (cD (.str "out")))
  nxO)
  (ifO (asF (bin2 eqD (varD 5) (cD (.int 0))))
  (stO 2 (cD (.str "on")))
  nxO))))
  (rtO (varD 2))))
noncomputable def v_where_by : List D → R D := fnR 6 b_where_by
noncomputable def b_where : EnvS → Out :=
  (sqO (exO (callU 1 v_check_shape (consA (varD 0) nilA)))
  (sqO (exO (callU 1 v_check_points (consA (tupD (consA (varD 1) nilA)) nilA)))
  (rtO (callU 2 v_where_by (consA (callU 1 v_sides_by (consA (varD 0) nilA)) (consA (varD 1) nilA))))))
noncomputable def v_where : List D → R D := fnR 2 b_where
noncomputable def b_twice_area : EnvS → Out :=
  (sqO (exO (callU 1 v_check_shape (consA (varD 0) nilA)))
  (zpO 1 (varD 0) (bin2 addD (slcG (varD 0) (someP (cD (.int 1))) noP) (slcG (varD 0) noP (someP (cD (.int 1))))) (fun zs => (rtO (callF sumK (lcF (fun _ => .ok zs) (tupG 2 (consG (nmG 2) (consG (nmG 3) nilG))) yesB (bin2 subD (bin2 mulD (bin2 ixD (varD 2) (cD (.int 0))) (bin2 ixD (varD 3) (cD (.int 1)))) (bin2 mulD (bin2 ixD (varD 2) (cD (.int 1))) (bin2 ixD (varD 3) (cD (.int 0))))) [2, 3]))))))
noncomputable def v_twice_area : List D → R D := fnR 4 b_twice_area
noncomputable def b_least_first : EnvS → Out :=
  (sqO (stO 1 (lixF (varD 0) (un1 minPD (varD 0))))
  (rtO (callF tupK (consA (bin2 addD (slcG (varD 0) (someP (varD 1)) noP) (slcG (varD 0) noP (someP (varD 1)))) nilA))))
noncomputable def v_least_first : List D → R D := fnR 2 b_least_first
noncomputable def b_opposite_by : EnvS → Out :=
  (rtO (callU 1 v_least_first (consA (lstF (lcF (seqF (varD 0)) (nmG 1) yesB (tupD (consA (bin2 subD (cD (.int 0)) (bin2 ixD (varD 1) (cD (.int 0)))) (consA (bin2 subD (cD (.int 0)) (bin2 ixD (varD 1) (cD (.int 1)))) nilA))) [1])) nilA)))
noncomputable def v_opposite_by : List D → R D := fnR 2 b_opposite_by
noncomputable def b_opposite : EnvS → Out :=
  (sqO (exO (callU 1 v_check_shape (consA (varD 0) nilA)))
  (rtO (callU 1 v_opposite_by (consA (varD 0) nilA))))
noncomputable def v_opposite : List D → R D := fnR 1 b_opposite
noncomputable def b_apart_sides : EnvS → Out :=
  (rtO (callU 1 v_sides_by (consA (callU 2 v_apart_corners (consA (varD 0) (consA (varD 1) nilA))) nilA)))
noncomputable def v_apart_sides : List D → R D := fnR 2 b_apart_sides
noncomputable def b_text_of_shape : EnvS → Out :=
  (rtO (joinL (cD (.str " ")) (lcF (seqF (varD 0)) (nmG 1) yesB (bin2 addD (bin2 addD (callF strK (consA (bin2 ixD (varD 1) (cD (.int 0))) nilA)) (cD (.str ","))) (callF strK (consA (bin2 ixD (varD 1) (cD (.int 1))) nilA))) [1])))
noncomputable def v_text_of_shape : List D → R D := fnR 2 b_text_of_shape
noncomputable def b_shape_text : EnvS → Out :=
  (sqO (exO (callU 1 v_check_shape (consA (varD 0) nilA)))
  (rtO (callU 1 v_text_of_shape (consA (varD 0) nilA))))
noncomputable def v_shape_text : List D → R D := fnR 1 b_shape_text
noncomputable def b_integer_of : EnvS → Out :=
  (sqO (stO 1 (ifD (asF (bin2 eqD (slcG (varD 0) noP (someP (cD (.int 1)))) (cD (.str "-")))) (slcG (varD 0) (someP (cD (.int 1))) noP) (varD 0)))
  (sqO (ifO (orB (notB (asF (chD leD leD (cD (.int 1)) (callF lenK (consA (varD 1) nilA)) (cD (.int 300))))) (notB (asF (callF allK (lcF (seqF (varD 1)) (nmG 2) yesB (bin2 inG (varD 2) (cD (.str "0123456789"))) [2])))))
  (rtO (cD .none))
  nxO)
  (rtO (ifD (orB (asF (bin2 eqD (varD 0) (cD (.str "0")))) (asF (bin2 neD (bin2 ixD (varD 1) (cD (.int 0))) (cD (.str "0"))))) (callF intG (consA (varD 0) nilA)) (cD .none)))))
noncomputable def v_integer_of : List D → R D := fnR 3 b_integer_of
noncomputable def b_read_shape : EnvS → Out :=
  (sqO (owO 1 (newD nilA))
  (sqO (loO (seqF (lstF (splF (varD 0) (cD (.str " "))))) (nmG 2)
  (sqO (stO 3 (lstF (lcF (splF (varD 2) (cD (.str ","))) (nmG 4) yesB (callU 1 v_integer_of (consA (varD 4) nilA)) [4])))
  (sqO (ifO (orB (asF (bin2 neD (callF lenK (consA (varD 3) nilA)) (cD (.int 2)))) (asF (bin2 inG (cD .none) (varD 3))))
  (rtO (cD .none))
  nxO)
  (appO 1 (callF tupK (consA (varD 3) nilA))))))
  (rtO (ifD (asF (bin2 isND (callU 1 v_shape_fault (consA (callF (fun ds => .ok (.tuple ds)) (ownD 1)) nilA)) (cD .none))) (callF (fun ds => .ok (.tuple ds)) (ownD 1)) (cD .none)))))
noncomputable def v_read_shape : List D → R D := fnR 5 b_read_shape
noncomputable def b_shape_of : EnvS → Out :=
  (sqO (stO 1 (ifD (asF (isiD "str" (varD 0))) (callU 1 v_read_shape (consA (varD 0) nilA)) (cD .none)))
  (sqO (ifO (asF (bin2 isND (varD 1) (cD .none)))
  (fun ρ => .ex "BadText" ρ)
  nxO)
  (rtO (varD 1))))
noncomputable def v_shape_of : List D → R D := fnR 2 b_shape_of
noncomputable def b__law_error : EnvS → Out :=
  (sqO (tryO ["BadPoint", "BadShape", "BadText"]
  (ifO (asF (bin2 eqD (varD 0) (cD (.int 0))))
  (exO (callU 1 v_sides_of (consA (varD 1) nilA)))
  (ifO (asF (bin2 eqD (varD 0) (cD (.int 1))))
  (exO (callU 2 v_where (consA (varD 1) (consA (varD 2) nilA))))
  (ifO (asF (bin2 eqD (varD 0) (cD (.int 2))))
  (exO (callU 1 v_twice_area (consA (varD 1) nilA)))
  (ifO (asF (bin2 eqD (varD 0) (cD (.int 3))))
  (exO (callU 1 v_opposite (consA (varD 1) nilA)))
  (ifO (asF (bin2 eqD (varD 0) (cD (.int 4))))
  (exO (callU 2 v_apart_sides (consA (varD 1) (consA (varD 2) nilA))))
  (ifO (asF (bin2 eqD (varD 0) (cD (.int 5))))
  (exO (callU 2 v_apart_corners (consA (varD 1) (consA (varD 2) nilA))))
  (ifO (asF (bin2 eqD (varD 0) (cD (.int 6))))
  (exO (callU 1 v_shape_text (consA (varD 1) nilA)))
  (exO (callU 1 v_shape_of (consA (varD 1) nilA)))))))))) (("BadShape", (rtO (cD (.str "shape")))) :: (("BadPoint", (rtO (cD (.str "point")))) :: (("BadText", (rtO (cD (.str "text")))) :: []))))
  (rtO (cD (.str "none"))))
noncomputable def v__law_error : List D → R D := fnR 3 b__law_error
noncomputable def b__law_turn : EnvS → Out :=
  (rtO (bin2 subD (bin2 mulD (bin2 subD (bin2 ixD (varD 1) (cD (.int 0))) (bin2 ixD (varD 0) (cD (.int 0)))) (bin2 subD (bin2 ixD (varD 2) (cD (.int 1))) (bin2 ixD (varD 0) (cD (.int 1))))) (bin2 mulD (bin2 subD (bin2 ixD (varD 1) (cD (.int 1))) (bin2 ixD (varD 0) (cD (.int 1)))) (bin2 subD (bin2 ixD (varD 2) (cD (.int 0))) (bin2 ixD (varD 0) (cD (.int 0)))))))
noncomputable def v__law_turn : List D → R D := fnR 3 b__law_turn
noncomputable def b__law_fault : EnvS → Out :=
  (sqO (ifO (orB (notB (asF (isiD "tuple" (varD 0)))) (orB (notB (asF (chD ltD ltD (cD (.int 2)) (callF lenK (consA (varD 0) nilA)) (cD (.int 9))))) (notB (asF (callF allK (lcF (seqF (varD 0)) (nmG 1) yesB (andV (isiD "tuple" (varD 1)) (bin2 eqD (callF lenK (consA (varD 1) nilA)) (cD (.int 2)))) [1]))))))
  (rtO (tupD (consA (cD (.str "form")) nilA)))
  nxO)
  (sqO (ifO (notB (asF (callF allK (lcF (seqF (varD 0)) (nmG 1) yesB (callF allK (lcF (seqF (varD 1)) (nmG 5) yesB (andV (isiD "int" (varD 5)) (andV (notV (isiD "bool" (varD 5))) (chD ltD ltD (un1 negD (cD (.int 31))) (varD 5) (cD (.int 31))))) [5])) [1]))))
  (rtO (tupD (consA (cD (.str "form")) nilA)))
  nxO)
  (sqO (ifO (asF (bin2 neD (bin2 ixD (varD 0) (cD (.int 0))) (ixL (srtT (varD 0)) (cD (.int 0)))))
  (rtO (tupD (consA (cD (.str "first")) nilA)))
  nxO)
  (sqO (loO (rng1F (callF lenK (consA (varD 0) nilA))) (nmG 2)
  (sqO (unO (tupD (consA (bin2 ixD (varD 0) (bin2 subD (varD 2) (cD (.int 1)))) (consA (bin2 ixD (varD 0) (varD 2)) (consA (bin2 ixD (varD 0) (bin2 modD (bin2 addD (varD 2) (cD (.int 1))) (callF lenK (consA (varD 0) nilA)))) nilA)))) (tupG 3 (consG (nmG 1) (consG (nmG 3) (consG (nmG 4) nilG)))))
  (ifO (orB (asF (bin2 leD (callU 3 v__law_turn (consA (varD 1) (consA (varD 3) (consA (varD 4) nilA)))) (cD (.int 0)))) (notB (asF (callF allK (lcF (seqF (varD 0)) (nmG 6) (andB (asF (bin2 neD (varD 6) (varD 1))) (asF (bin2 neD (varD 6) (varD 3)))) (bin2 gtD (callU 3 v__law_turn (consA (varD 1) (consA (varD 3) (consA (varD 6) nilA)))) (cD (.int 0))) [6])))))
  (rtO (tupD (consA (cD (.str "corner")) (consA (varD 2) nilA))))
  nxO)))
  (rtO (cD .none))))))
noncomputable def v__law_fault : List D → R D := fnR 7 b__law_fault
noncomputable def b__law_sides : EnvS → Out :=
  (sqO (owO 1 (newD nilA))
  (sqO (loO (rng1F (callF lenK (consA (varD 0) nilA))) (nmG 2)
  (sqO (parO 3 4 (consA (bin2 ixD (varD 0) (varD 2)) (consA (bin2 ixD (varD 0) (bin2 modD (bin2 addD (varD 2) (cD (.int 1))) (callF lenK (consA (varD 0) nilA)))) nilA)))
  (sqO (stO 5 (tupD (consA (bin2 subD (bin2 ixD (varD 4) (cD (.int 1))) (bin2 ixD (varD 3) (cD (.int 1)))) (consA (bin2 subD (bin2 ixD (varD 3) (cD (.int 0))) (bin2 ixD (varD 4) (cD (.int 0)))) nilA))))
  (sqO (stO 6 (callF maxK (lcF (rng2F (cD (.int 1)) (cD (.int 130))) (nmG 8) (andB (asF (bin2 eqD (bin2 modD (bin2 ixD (varD 5) (cD (.int 0))) (varD 8)) (cD (.int 0)))) (asF (bin2 eqD (bin2 modD (bin2 ixD (varD 5) (cD (.int 1))) (varD 8)) (cD (.int 0))))) (varD 8) [8])))
  (sqO (stO 7 (tupD (consA (bin2 fdivD (bin2 ixD (varD 5) (cD (.int 0))) (varD 6)) (consA (bin2 fdivD (bin2 ixD (varD 5) (cD (.int 1))) (varD 6)) nilA))))
  (appO 1 (tupD (consA (varD 7) (consA (bin2 addD (bin2 mulD (bin2 ixD (varD 7) (cD (.int 0))) (bin2 ixD (varD 3) (cD (.int 0)))) (bin2 mulD (bin2 ixD (varD 7) (cD (.int 1))) (bin2 ixD (varD 3) (cD (.int 1))))) nilA)))))))))
  (rtO (callF (fun ds => .ok (.tuple ds)) (ownD 1)))))
noncomputable def v__law_sides : List D → R D := fnR 9 b__law_sides
noncomputable def b__law_round : EnvS → Out :=
  (sqO (owO 1 (newD (consA (ixL (callN sortK (asLF (varD 0))) (cD (.int 0))) nilA)))
  (whX (asF (cD (.bool true)))
  (sqO (stO 2 (ixL (ownD 1) (un1 negD (cD (.int 1)))))
  (sqO (stO 3 (cD .none))
  (sqO (loO (seqF (varD 0)) (nmG 4)
  (ifO (asF (bin2 neD (varD 4) (varD 2)))
  (sqO (stO 5 (ifD (asF (bin2 isND (varD 3) (cD .none))) (cD (.int 1)) (callU 3 v__law_turn (consA (varD 2) (consA (varD 4) (consA (varD 3) nilA))))))
  (sqO (stO 6 (andV (bin2 notND (varD 3) (cD .none)) (andV (bin2 eqD (varD 5) (cD (.int 0))) (bin2 gtD (bin2 addD (callF absK (consA (bin2 subD (bin2 ixD (varD 4) (cD (.int 0))) (bin2 ixD (varD 2) (cD (.int 0)))) nilA)) (callF absK (consA (bin2 subD (bin2 ixD (varD 4) (cD (.int 1))) (bin2 ixD (varD 2) (cD (.int 1)))) nilA))) (bin2 addD (callF absK (consA (bin2 subD (bin2 ixD (varD 3) (cD (.int 0))) (bin2 ixD (varD 2) (cD (.int 0)))) nilA)) (callF absK (consA (bin2 subD (bin2 ixD (varD 3) (cD (.int 1))) (bin2 ixD (varD 2) (cD (.int 1)))) nilA)))))))
  (stO 3 (ifD (orB (asF (bin2 isND (varD 3) (cD .none))) (orB (asF (bin2 gtD (varD 5) (cD (.int 0)))) (asF (varD 6)))) (varD 4) (varD 3)))))
  nxO))
  (sqO (ifO (asF (bin2 eqD (varD 3) (ixL (ownD 1) (cD (.int 0)))))
  (rtO (callF (fun ds => .ok (.tuple ds)) (ownD 1)))
  nxO)
  (appO 1 (varD 3))))))))
noncomputable def v__law_round : List D → R D := fnR 7 b__law_round
noncomputable def b__law_frac : EnvS → Out :=
  (sqO (parO 2 3 (consA (callF absK (consA (varD 0) nilA)) (consA (varD 1) nilA)))
  (sqO (whX (asF (bin2 gtD (varD 3) (cD (.int 0))))
  (parO 2 3 (consA (varD 3) (consA (bin2 modD (varD 2) (varD 3)) nilA))))
  (rtO (tupD (consA (bin2 fdivD (varD 0) (varD 2)) (consA (bin2 fdivD (varD 1) (varD 2)) nilA))))))
noncomputable def v__law_frac : List D → R D := fnR 4 b__law_frac
noncomputable def b__law_where : EnvS → Out :=
  (sqO (stO 2 (cD (.str "in")))
  (sqO (loO (rng1F (callF lenK (consA (varD 0) nilA))) (nmG 3)
  (sqO (parO 4 5 (consA (bin2 ixD (varD 0) (varD 3)) (consA (bin2 ixD (varD 0) (bin2 modD (bin2 addD (varD 3) (cD (.int 1))) (callF lenK (consA (varD 0) nilA)))) nilA)))
  (sqO (stO 6 (bin2 mulD (bin2 ixD (bin2 ixD (varD 1) (cD (.int 0))) (cD (.int 1))) (bin2 ixD (bin2 ixD (varD 1) (cD (.int 1))) (cD (.int 1)))))
  (sqO (stO 7 (bin2 subD (bin2 mulD (bin2 subD (bin2 ixD (varD 5) (cD (.int 0))) (bin2 ixD (varD 4) (cD (.int 0)))) (bin2 subD (bin2 mulD (bin2 ixD (bin2 ixD (varD 1) (cD (.int 1))) (cD (.int 0))) (bin2 ixD (bin2 ixD (varD 1) (cD (.int 0))) (cD (.int 1)))) (bin2 mulD (bin2 ixD (varD 4) (cD (.int 1))) (varD 6)))) (bin2 mulD (bin2 subD (bin2 ixD (varD 5) (cD (.int 1))) (bin2 ixD (varD 4) (cD (.int 1)))) (bin2 subD (bin2 mulD (bin2 ixD (bin2 ixD (varD 1) (cD (.int 0))) (cD (.int 0))) (bin2 ixD (bin2 ixD (varD 1) (cD (.int 1))) (cD (.int 1)))) (bin2 mulD (bin2 ixD (varD 4) (cD (.int 0))) (varD 6))))))
  (stO 2 (ifD (orB (asF (bin2 ltD (varD 7) (cD (.int 0)))) (asF (bin2 eqD (varD 2) (cD (.str "out"))))) (cD (.str "out")) (ifD (asF (bin2 eqD (varD 7) (cD (.int 0)))) (cD (.str "on")) (varD 2))))))))
  (rtO (varD 2))))
noncomputable def v__law_where : List D → R D := fnR 8 b__law_where
noncomputable def b_law : EnvS → Out :=
  (sqO (stO 1 (callU 2 v__law_draws (consA (varD 0) (consA (cD (.int 120)) nilA))))
  (sqO (loO (rng1F (cD (.int 4))) (nmG 2)
  (sqO (unO (tupD (consA (callU 1 v__law_shape (consA (slcG (varD 1) (someP (bin2 mulD (cD (.int 10)) (varD 2))) noP) nilA)) (consA (callU 1 v__law_shape (consA (slcG (varD 1) (someP (bin2 addD (cD (.int 5)) (bin2 mulD (cD (.int 10)) (varD 2)))) noP) nilA)) nilA))) (tupG 2 (consG (nmG 3) (consG (nmG 4) nilG))))
  (sqO (ifO (orB (asF (bin2 notND (callU 1 v_shape_fault (consA (varD 3) nilA)) (cD .none))) (orB (asF (bin2 notND (callU 1 v__law_fault (consA (varD 3) nilA)) (cD .none))) (asF (bin2 neD (callU 1 v_sides_of (consA (varD 3) nilA)) (callU 1 v__law_sides (consA (varD 3) nilA))))))
  (rtO (cD (.bool false)))
  nxO)
  (sqO (stO 6 (callF sumK (lcF (rng1F (callF lenK (consA (varD 3) nilA))) (nmG 5) yesB (bin2 subD (bin2 mulD (bin2 ixD (bin2 ixD (varD 3) (bin2 subD (varD 5) (cD (.int 1)))) (cD (.int 0))) (bin2 ixD (bin2 ixD (varD 3) (varD 5)) (cD (.int 1)))) (bin2 mulD (bin2 ixD (bin2 ixD (varD 3) (bin2 subD (varD 5) (cD (.int 1)))) (cD (.int 1))) (bin2 ixD (bin2 ixD (varD 3) (varD 5)) (cD (.int 0))))) [5])))
  (sqO (ifO (orB (asF (bin2 neD (callU 1 v_twice_area (consA (varD 3) nilA)) (varD 6))) (orB (asF (bin2 neD (lstF (srtT (callU 1 v_opposite (consA (varD 3) nilA)))) (lstF (callN sortK (lcF (seqF (varD 3)) (nmG 7) yesB (tupD (consA (bin2 subD (cD (.int 0)) (bin2 ixD (varD 7) (cD (.int 0)))) (consA (bin2 subD (cD (.int 0)) (bin2 ixD (varD 7) (cD (.int 1)))) nilA))) [7]))))) (orB (asF (bin2 notND (callU 1 v_shape_fault (consA (callU 1 v_opposite (consA (varD 3) nilA)) nilA)) (cD .none))) (asF (bin2 neD (callU 1 v_opposite (consA (callU 1 v_opposite (consA (varD 3) nilA)) nilA)) (varD 3))))))
  (rtO (cD (.bool false)))
  nxO)
  (sqO (stO 8 (lstF (newD nilA)))
  (sqO (loO (seqF (varD 3)) (nmG 7)
  (stO 8 (lstF (catL (asLF (varD 8)) (lcF (seqF (varD 4)) (nmG 21) yesB (tupD (consA (bin2 subD (bin2 ixD (varD 7) (cD (.int 0))) (bin2 ixD (varD 21) (cD (.int 0)))) (consA (bin2 subD (bin2 ixD (varD 7) (cD (.int 1))) (bin2 ixD (varD 21) (cD (.int 1)))) nilA))) [21])))))
  (sqO (stO 9 (callU 2 v_apart_corners (consA (varD 3) (consA (varD 4) nilA))))
  (sqO (ifO (orB (asF (bin2 neD (varD 9) (callU 1 v__law_round (consA (varD 8) nilA)))) (asF (bin2 neD (callU 2 v_apart_sides (consA (varD 3) (consA (varD 4) nilA))) (callU 1 v__law_sides (consA (varD 9) nilA)))))
  (rtO (cD (.bool false)))
  nxO)
  (sqO (loO (rng1F (cD (.int 8))) (nmG 5)
  (sqO (stO 10 (tupD (consA (callU 2 v__law_frac (consA (bin2 subD (bin2 modD (callF intG (consA (bin2 ixD (varD 1) (bin2 addD (cD (.int 50)) (varD 5))) nilA)) (cD (.int 17))) (cD (.int 4))) (consA (cD (.int 2)) nilA))) (consA (callU 2 v__law_frac (consA (bin2 subD (bin2 modD (callF intG (consA (bin2 ixD (varD 1) (bin2 addD (cD (.int 60)) (varD 5))) nilA)) (cD (.int 17))) (cD (.int 4))) (consA (cD (.int 2)) nilA))) nilA))))
  (ifO (asF (bin2 neD (callU 2 v_where (consA (varD 3) (consA (varD 10) nilA))) (callU 2 v__law_where (consA (varD 3) (consA (varD 10) nilA)))))
  (rtO (cD (.bool false)))
  nxO)))
  (sqO (stO 11 (joinL (cD (.str " ")) (lcF (seqF (varD 3)) (nmG 7) yesB (bin2 addD (bin2 addD (callF strK (consA (bin2 ixD (varD 7) (cD (.int 0))) nilA)) (cD (.str ","))) (callF strK (consA (bin2 ixD (varD 7) (cD (.int 1))) nilA))) [7])))
  (sqO (ifO (orB (asF (bin2 neD (callU 1 v_shape_text (consA (varD 3) nilA)) (varD 11))) (asF (bin2 neD (callU 1 v_shape_of (consA (varD 11) nilA)) (varD 3))))
  (rtO (cD (.bool false)))
  nxO)
  (sqO (parO 12 13 (consA (bin2 modD (callF intG (consA (bin2 ixD (varD 1) (bin2 addD (cD (.int 70)) (varD 2))) nilA)) (callF lenK (consA (varD 3) nilA))) (consA (callF intG (consA (bin2 ixD (varD 1) (bin2 addD (cD (.int 75)) (varD 2))) nilA)) nilA)))
  (sqO (stO 14 (ixL (newD (consA (tupD (consA (cD (.int 31)) (consA (cD (.int 0)) nilA))) (consA (tupD (consA (cD (.bool true)) (consA (cD (.int 0)) nilA))) (consA (cD .none) (consA (tupD (consA (cD (.int 0)) nilA)) (consA (tupD (consA (un1 negD (cD (.int 9))) (consA (un1 negD (cD (.int 9))) nilA))) (consA (tupD (consA (cD (.int 1)) (consA (cD (.int 1)) nilA))) (consA (bin2 ixD (varD 3) (bin2 subD (varD 12) (cD (.int 1)))) (consA (tupD (consA (cD (.int 20)) (consA (cD (.int 20)) nilA))) nilA))))))))) (bin2 modD (varD 13) (cD (.int 8)))))
  (loO (seqF (tupD (consA (bin2 addD (bin2 addD (slcG (varD 3) noP (someP (varD 12))) (tupD (consA (varD 14) nilA))) (slcG (varD 3) (someP (bin2 addD (varD 12) (cD (.int 1)))) noP)) (consA (bin2 addD (slcG (varD 3) noP (someP (varD 12))) (slcG (varD 3) (someP (bin2 addD (varD 12) (cD (.int 1)))) noP)) (consA (revT (varD 3)) (consA (bin2 addD (slcG (varD 3) (someP (cD (.int 1))) noP) (slcG (varD 3) noP (someP (cD (.int 1))))) (consA (bin2 addD (varD 3) (slcG (varD 3) noP (someP (cD (.int 1))))) (consA (lstF (callN lstK (consA (varD 3) nilA))) (consA (bin2 addD (bin2 addD (slcG (varD 3) noP (someP (varD 12))) (tupD (consA (varD 14) nilA))) (slcG (varD 3) (someP (varD 12)) noP)) nilA))))))))) (nmG 15)
  (ifO (orB (asF (bin2 neD (callU 1 v_shape_fault (consA (varD 15) nilA)) (callU 1 v__law_fault (consA (varD 15) nilA)))) (asF (bin2 neD (bin2 eqD (callU 3 v__law_error (consA (cD (.int 0)) (consA (varD 15) (consA (cD .none) nilA)))) (cD (.str "shape"))) (bin2 notND (callU 1 v__law_fault (consA (varD 15) nilA)) (cD .none)))))
  (rtO (cD (.bool false)))
  nxO))))))))))))))))
  (sqO (stO 16 (tupD (consA (tupD (consA (cD (.int 0)) (consA (cD (.int 0)) nilA))) (consA (tupD (consA (cD (.int 6)) (consA (cD (.int 4)) nilA))) (consA (tupD (consA (un1 negD (cD (.int 1))) (consA (cD (.int 4)) nilA))) (consA (tupD (consA (cD (.int 5)) (consA (cD (.int 0)) nilA))) (consA (tupD (consA (cD (.int 2)) (consA (cD (.int 7)) nilA))) nilA)))))))
  (sqO (unO (tupD (consA (tupD (consA (tupD (consA (cD (.int 0)) (consA (cD (.int 0)) nilA))) (consA (tupD (consA (cD (.int 2)) (consA (cD (.int 0)) nilA))) (consA (tupD (consA (cD (.int 0)) (consA (cD (.int 2)) nilA))) nilA)))) (consA (tupD (consA (tupD (consA (cD (.int 1)) (consA (cD (.int 2)) nilA))) (consA (tupD (consA (cD (.int 1)) (consA (cD (.int 2)) nilA))) nilA))) nilA))) (tupG 2 (consG (nmG 17) (consG (nmG 10) nilG))))
  (sqO (loO (seqF (tupD (consA (cD .none) (consA (tupD nilA) (consA (slcG (varD 17) noP (someP (cD (.int 2)))) (consA (tupD (consA (tupD (consA (cD (.int 0)) (consA (cD (.int 0)) nilA))) (consA (tupD (consA (cD (.int 1)) (consA (cD (.int 1)) nilA))) (consA (tupD (consA (cD (.int 2)) (consA (cD (.int 2)) nilA))) nilA)))) (consA (varD 16) (consA (bin2 repTD (varD 17) (cD (.int 3))) (consA (cD (.int 5)) nilA))))))))) (nmG 18)
  (sqO (ifO (orB (asF (bin2 neD (callU 1 v_shape_fault (consA (varD 18) nilA)) (callU 1 v__law_fault (consA (varD 18) nilA)))) (asF (bin2 neD (lstF (lcF (seqF (tupD (consA (cD (.int 4)) (consA (cD (.int 5)) nilA)))) (nmG 20) yesB (callU 3 v__law_error (consA (varD 20) (consA (varD 17) (consA (varD 18) nilA)))) [20])) (lstF (repL (newD (consA (cD (.str "shape")) nilA)) (cD (.int 2)))))))
  (rtO (cD (.bool false)))
  nxO)
  (ifO (asF (bin2 neD (lstF (lcF (rng1F (cD (.int 7))) (nmG 20) yesB (callU 3 v__law_error (consA (varD 20) (consA (varD 18) (consA (ifD (asF (bin2 gtD (varD 20) (cD (.int 3)))) (varD 17) (varD 10)) nilA)))) [20])) (lstF (repL (newD (consA (cD (.str "shape")) nilA)) (cD (.int 7))))))
  (rtO (cD (.bool false)))
  nxO)))
  (sqO (ifO (asF (bin2 neD (lstF (lcF (seqF (tupD (consA (cD .none) (consA (tupD (consA (cD (.int 1)) (consA (cD (.int 2)) nilA))) (consA (tupD (consA (tupD (consA (cD (.int 1)) (consA (cD (.int 2)) nilA))) nilA)) (consA (tupD (consA (tupD (consA (cD (.int 2)) (consA (cD (.int 4)) nilA))) (consA (tupD (consA (cD (.int 0)) (consA (cD (.int 1)) nilA))) nilA))) nilA)))))) (nmG 18) yesB (callU 3 v__law_error (consA (cD (.int 1)) (consA (varD 17) (consA (varD 18) nilA)))) [18])) (lstF (repL (newD (consA (cD (.str "point")) nilA)) (cD (.int 4))))))
  (rtO (cD (.bool false)))
  nxO)
  (sqO (stO 19 (lstF (newD (consA (cD (.str "")) (consA (cD (.str "0,0 2,0")) (consA (cD (.str "0,0 0,2 2,0")) (consA (cD (.str "0,0 2,0 0,2 ")) (consA (cD (.str "0,0  2,0 0,2")) (consA (cD (.str "0, 0 2,0 0,2")) (consA (cD (.str "00,0 2,0 0,2")) (consA (cD (.str "0,0 2 0,2")) (consA (cD (.str "0,0 2,0 0,31")) nilA))))))))))))
  (rtO (bin2 eqD (lstF (lcF (catL (newD (consA (cD .none) (consA (cD (.int 5)) nilA))) (asLF (varD 19))) (nmG 18) yesB (callU 3 v__law_error (consA (cD (.int 7)) (consA (varD 18) (consA (cD .none) nilA)))) [18])) (lstF (repL (newD (consA (cD (.str "text")) nilA)) (cD (.int 11)))))))))))))
noncomputable def v_law : List D → R D := fnR 22 b_law
end Dn

namespace Mt
open PySem PySem.Spec PyProof.Rows L2 TD Dn
def N (q : Rat) : D := .tuple [.int q.num, .int q.den]
theorem okI (a : Int) : okD (.int a) = true := rfl
theorem okN (q : Rat) : okD (N q) = true := rfl
theorem eqv_int (a b : Int) : PyData.eqv (.int a) (.int b) = decide (a = b) := by
  first | rfl | (simp [PyData.eqv]) 
theorem eqD_int (a b : Int) : eqD (.int a) (.int b) = .ok (.bool (decide (a = b))) := by
  unfold eqD; rw [okI, okI, eqv_int]; rfl
theorem neD_int (a b : Int) : neD (.int a) (.int b) = .ok (.bool (!decide (a = b))) := by
  unfold neD; rw [okI, okI, eqv_int]; rfl
theorem fmodN (a b : Nat) : Int.fmod (a : Int) (b : Int) = ((a % b : Nat) : Int) := by
  rw [Int.fmod_eq_emod_of_nonneg _ (Int.natCast_nonneg b)]; rfl
theorem gcd_loop : ∀ (b a : Nat), ∃ n, whO (asF (bin2 gtD (varD 1) (cD (.int 0)))) (parO 0 1 (consA (varD 1) (consA (bin2 modD (varD 0) (varD 1)) nilA))) n [some (.pu (.int a)), some (.pu (.int b))] = .nx [some (.pu (.int (Nat.gcd a b : Nat))), some (.pu (.int 0))] := by
  intro b
  induction b using Nat.strongRecOn with
  | _ b ih =>
    intro a
    by_cases h : b = 0
    · subst h
      exact ⟨1, by simp [whO]⟩
    · obtain ⟨n, e⟩ := ih (a % b) (Nat.mod_lt _ (Nat.pos_of_ne_zero h)) b
      refine ⟨n + 1, ?_⟩
      have hb : (0:Int) < (b : Int) := by omega
      have hb' : decide ((b : Int) ≠ 0) = true := by simp [h]
      have hg : decide ((0:Int) < (b : Int)) = true := decide_eq_true hb
      have e1 : parO 0 1 (consA (varD 1) (consA (bin2 modD (varD 0) (varD 1)) nilA)) [some (.pu (.int a)), some (.pu (.int b))] = .nx [some (.pu (.int b)), some (.pu (.int (a % b : Nat)))] := by
        simp only [parO_ap, consA_ap, varD_succ, varD_zero, bin2_ap, nilA_ap, k2_ok, modD_int, hb', if_true, cnK_ok, parK_ok, List.set, fmodN]
      have e0 : asF (bin2 gtD (varD 1) (cD (.int 0))) [some (.pu (.int a)), some (.pu (.int b))] = .ok true := by
        simp only [asF_ap, varD_succ, varD_zero, bin2_ap, cD_ap, k2_ok, gtD_int, hg, asB_ok]
      rw [whO, e0, R.ok_out, if_pos rfl, e1]
      rw [Nat.gcd_comm a b, Nat.gcd_rec b a]
      rw [Nat.gcd_comm] at e
      exact e
theorem divisor_eq (a b : Int) : v_divisor [.int a, .int b] = .ok (.int (Int.gcd a b)) := by
  have ha : (if a < 0 then -a else a) = (a.natAbs : Int) := by split <;> omega
  have hb : (if b < 0 then -b else b) = (b.natAbs : Int) := by split <;> omega
  obtain ⟨n, e⟩ := gcd_loop b.natAbs a.natAbs
  have e2 := whX_eq n e (by intro h; cases h)
  show fnK (b_divisor [some (.pu (.int a)), some (.pu (.int b))]) = _
  unfold b_divisor
  simp [ha, hb, e2]
  rfl
theorem eqv_N (p q : Rat) : PyData.eqv (N p) (N q) = decide (p = q) := by
  have h : PyData.eqv (N p) (N q) = (decide (p.num = q.num) && decide ((p.den : Int) = q.den)) := by
    unfold N
    rw [show PyData.eqv (.tuple [.int p.num, .int p.den]) (.tuple [.int q.num, .int q.den]) = PyData.eqvAll [.int p.num, .int p.den] [.int q.num, .int q.den] by rw [PyData.eqv]]
    rw [PyData.eqvAll, PyData.eqvAll, PyData.eqvAll, eqv_int, eqv_int, Bool.and_true]
  rw [h]
  by_cases e : p = q
  · subst e; simp
  · rw [decide_eq_false e]
    by_cases e1 : p.num = q.num
    · rw [decide_eq_true e1]
      rw [Bool.true_and]
      apply decide_eq_false
      intro e2
      exact e (Rat.ext e1 (by omega))
    · rw [decide_eq_false e1]; rfl
theorem isint_int (a : Int) : v_is_integer [.int a] = .ok (.bool true) := by
  show fnK (b_is_integer [some (.pu (.int a))]) = _
  unfold b_is_integer
  simp [isiK, tyName, kit_ii, kit_ib]
theorem isint_other {d : D} (h1 : isI d = false ∨ isB d = true) (hd : isDict d = false) : v_is_integer [d] = .ok (.bool false) := by
  show fnK (b_is_integer [some (.pu d)]) = _
  unfold b_is_integer
  cases d <;> first | (cases hd; done) | (simp [isI, isB] at h1; done) | simp [isiK, tyName, kit_ii, kit_ib, kit_bi, kit_bb, kit_ti, kit_li, kit_ni, kit_si]
theorem isnum_pair (a b : Int) : v_is_number [.tuple [.int a, .int b]] = .ok (.bool (decide (1 ≤ b) && decide ((Int.gcd a b : Int) = 1))) := by
  show fnK (b_is_number [some (.pu (.tuple [.int a, .int b]))]) = _
  unfold b_is_number
  by_cases h : 1 ≤ b
  · simp [isiK, tyName, kit_tt, neD_int, isint_int, divisor_eq, eqD_int, h]
  · simp [isiK, tyName, kit_tt, neD_int, isint_int, divisor_eq, eqD_int, h]
theorem isnum_N (q : Rat) : v_is_number [N q] = .ok (.bool true) := by
  unfold N
  rw [isnum_pair]
  have h1 : (1 : Int) ≤ q.den := by have := q.den_pos; omega
  have h2 : (Int.gcd q.num q.den : Int) = 1 := by
    have := q.reduced
    show ((Nat.gcd q.num.natAbs (q.den : Int).natAbs : Nat) : Int) = 1
    rw [Int.natAbs_natCast, show Nat.gcd q.num.natAbs q.den = 1 from this]; rfl
  rw [decide_eq_true h1, decide_eq_true h2]; rfl
/-! ### sizes -/
def Bd (k : Nat) (q : Rat) : Prop := q.num.natAbs < 2 ^ k ∧ q.den < 2 ^ k
theorem log2_le {x k : Nat} (h : x < 2 ^ k) : x.log2 ≤ k := by
  by_cases e : x = 0
  · subst e; simp
  · exact Nat.le_of_lt ((Nat.log2_lt e).mpr h)
theorem mulOk_of {a b : Int} {k l : Nat} (ha : a.natAbs < 2 ^ k) (hb : b.natAbs < 2 ^ l) (h : k + l < 1000000) : mulOk a b = true := by
  unfold mulOk
  have := log2_le ha
  have := log2_le hb
  apply decide_eq_true
  omega
theorem mulD_ok {a b : Int} {k l : Nat} (ha : a.natAbs < 2 ^ k) (hb : b.natAbs < 2 ^ l) (h : k + l < 1000000) : mulD (.int a) (.int b) = .ok (.int (a * b)) := by
  rw [mulD_int, mulOk_of ha hb h]; rfl
theorem mul_lt {a b : Int} {k l : Nat} (ha : a.natAbs < 2 ^ k) (hb : b.natAbs < 2 ^ l) : (a * b).natAbs < 2 ^ (k + l) := by
  rw [Int.natAbs_mul, Nat.pow_add]
  exact Nat.mul_lt_mul'' ha hb
theorem add_lt {a b : Int} {k : Nat} (ha : a.natAbs < 2 ^ k) (hb : b.natAbs < 2 ^ k) : (a + b).natAbs < 2 ^ (k + 1) := by
  rw [Nat.pow_succ]; omega
theorem sub_lt {a b : Int} {k : Nat} (ha : a.natAbs < 2 ^ k) (hb : b.natAbs < 2 ^ k) : (a - b).natAbs < 2 ^ (k + 1) := by
  rw [Nat.pow_succ]; omega
theorem lt_up {a k l : Nat} (h : a < 2 ^ k) (hl : k ≤ l) : a < 2 ^ l := Nat.lt_of_lt_of_le h (Nat.pow_le_pow_right (by decide) hl)
theorem Bd.up {k l : Nat} {q : Rat} (h : Bd k q) (hl : k ≤ l) : Bd l q := ⟨lt_up h.1 hl, lt_up h.2 hl⟩
/-! ### made -/
theorem made_core {a b c : Int} (hc : c = if b < 0 then -(Int.gcd a b : Int) else Int.gcd a b) (hb : b ≠ 0) :
    ∃ n d : Int, a = n * c ∧ b = d * c ∧ 0 < d ∧ Int.gcd n d = 1 ∧ c ≠ 0 := by
  have hg : (Int.gcd a b : Int) ≠ 0 := by
    intro h
    have : Int.gcd a b = 0 := by omega
    exact hb (Int.gcd_eq_zero_iff.mp this).2
  obtain ⟨n, hn⟩ := Int.gcd_dvd_left a b
  obtain ⟨d, hd⟩ := Int.gcd_dvd_right a b
  have hc0 : c ≠ 0 := by rw [hc]; split <;> omega
  have key : ∀ n d : Int, a = n * c → b = d * c → Int.gcd n d = 1 := by
    intro n d e1 e2
    have e := Int.gcd_mul_right n c d
    rw [← e1, ← e2] at e
    have e3 : c.natAbs = Int.gcd a b := by rw [hc]; split <;> omega
    rw [e3] at e
    have hpos : 0 < Int.gcd a b := by omega
    exact Nat.eq_of_mul_eq_mul_right hpos (by rw [Nat.one_mul]; exact e.symm)
  by_cases hneg : b < 0
  · rw [if_pos hneg] at hc
    have h1 : a = -n * c := by rw [hc, Int.neg_mul_neg, Int.mul_comm]; exact hn
    have h2 : b = -d * c := by rw [hc, Int.neg_mul_neg, Int.mul_comm]; exact hd
    refine ⟨-n, -d, h1, h2, ?_, key _ _ h1 h2, hc0⟩
    have hcneg : c < 0 := by omega
    rcases Int.lt_trichotomy (-d) 0 with h | h | h
    · have := Int.mul_pos_of_neg_of_neg h hcneg; omega
    · rw [h] at h2; omega
    · exact h
  · rw [if_neg hneg] at hc
    have h1 : a = n * c := by rw [hc, Int.mul_comm]; exact hn
    have h2 : b = d * c := by rw [hc, Int.mul_comm]; exact hd
    refine ⟨n, d, h1, h2, ?_, key _ _ h1 h2, hc0⟩
    have hcpos : 0 < c := by omega
    rcases Int.lt_trichotomy d 0 with h | h | h
    · have := Int.mul_neg_of_neg_of_pos h hcpos; omega
    · rw [h] at h2; omega
    · exact h
theorem fdiv_mul {n c : Int} (h : c ≠ 0) : (n * c).fdiv c = n := Int.mul_fdiv_cancel n h
theorem divInt_N {n d c : Int} (hd : 0 < d) (hg : Int.gcd n d = 1) (hc : c ≠ 0) : (Rat.divInt (n * c) (d * c)).num = n ∧ ((Rat.divInt (n * c) (d * c)).den : Int) = d := by
  rw [Rat.divInt_mul_right hc]
  obtain ⟨m, rfl⟩ := Int.eq_ofNat_of_zero_le (Int.le_of_lt hd)
  have nz : m ≠ 0 := by omega
  have co : n.natAbs.Coprime m := by
    have hg' : Nat.gcd n.natAbs ((m : Nat) : Int).natAbs = 1 := hg
    rw [Int.natAbs_natCast] at hg'; exact hg'
  rw [← Rat.mk_eq_divInt (nz := nz) (c := co)]
  exact ⟨rfl, rfl⟩
theorem divInt_bd {a b : Int} (hb : b ≠ 0) : (Rat.divInt a b).num.natAbs ≤ a.natAbs ∧ (Rat.divInt a b).den ≤ b.natAbs := by
  obtain ⟨n, d, ha, hbd, hd, hg, hc⟩ := made_core (a := a) rfl hb
  generalize hcc : (if b < 0 then -(Int.gcd a b : Int) else Int.gcd a b) = c at ha hbd hc
  have e := divInt_N (n := n) hd hg hc
  rw [← ha, ← hbd] at e
  have h1 : 1 ≤ c.natAbs := by omega
  refine ⟨?_, ?_⟩
  · rw [e.1, ha, Int.natAbs_mul]; exact Nat.le_mul_of_pos_right _ h1
  · have : (Rat.divInt a b).den = d.natAbs := by omega
    rw [this, hbd, Int.natAbs_mul]; exact Nat.le_mul_of_pos_right _ h1
theorem divInt_cross {a b : Int} (hb : b ≠ 0) : (Rat.divInt a b).num * b = a * (Rat.divInt a b).den := by
  have h := Rat.num_divInt_den (Rat.divInt a b)
  have hd : ((Rat.divInt a b).den : Int) ≠ 0 := by have := (Rat.divInt a b).den_pos; omega
  exact (Rat.divInt_eq_divInt_iff hd hb).mp h
@[simp] theorem ixN0 (q : Rat) : ixD (N q) (.int 0) = .ok (.int q.num) := rfl
@[simp] theorem ixN1 (q : Rat) : ixD (N q) (.int 1) = .ok (.int q.den) := rfl
section
variable {p q : Rat} {k l : Nat}
theorem den_ne (q : Rat) : (q.den : Int) ≠ 0 := by have := q.den_pos; omega
theorem natAbs_den (q : Rat) : ((q.den : Int)).natAbs = q.den := Int.natAbs_natCast _
theorem dB (h : Bd k q) : ((q.den : Int)).natAbs < 2 ^ k := by rw [natAbs_den]; exact h.2
theorem add_div (p q : Rat) : p + q = Rat.divInt (p.num * q.den + q.num * p.den) (p.den * q.den) := by
  have h := Rat.divInt_add_divInt p.num q.num (den_ne p) (den_ne q)
  rw [Rat.num_divInt_den, Rat.num_divInt_den] at h
  exact h
theorem sub_div (p q : Rat) : p - q = Rat.divInt (p.num * q.den - q.num * p.den) (p.den * q.den) := by
  have h := Rat.divInt_sub_divInt p.num q.num (den_ne p) (den_ne q)
  rw [Rat.num_divInt_den, Rat.num_divInt_den] at h
  exact h
theorem mul_div (p q : Rat) : p * q = Rat.divInt (p.num * q.num) (p.den * q.den) := by
  have h := Rat.divInt_mul_divInt p.num q.num (d₁ := p.den) (d₂ := q.den)
  rw [Rat.num_divInt_den, Rat.num_divInt_den] at h
  exact h
theorem div_div (p q : Rat) : p / q = Rat.divInt (p.num * q.den) (p.den * q.num) := by
  rw [Rat.div_def, Rat.inv_def]
  have h := Rat.divInt_mul_divInt p.num q.den (d₁ := p.den) (d₂ := q.num)
  rw [Rat.num_divInt_den] at h
  exact h
theorem dd_ne (p q : Rat) : (p.den * q.den : Int) ≠ 0 := Int.mul_ne_zero (den_ne p) (den_ne q)
theorem num_ne (h : q ≠ 0) : q.num ≠ 0 := fun e => h (Rat.num_eq_zero.mp e)
/-- bounds -/
theorem add_bd (hp : Bd k p) (hq : Bd l q) : Bd (k + l + 1) (p + q) := by
  rw [add_div]
  have h := divInt_bd (a := p.num * q.den + q.num * p.den) (dd_ne p q)
  have h1 := mul_lt hp.1 (dB hq)
  have h2 := mul_lt hq.1 (dB hp)
  rw [Nat.add_comm l k] at h2
  have h3 := add_lt h1 h2
  have h4 := lt_up (mul_lt (dB hp) (dB hq)) (Nat.le_succ (k + l))
  exact ⟨Nat.lt_of_le_of_lt h.1 h3, Nat.lt_of_le_of_lt h.2 h4⟩
theorem sub_bd (hp : Bd k p) (hq : Bd l q) : Bd (k + l + 1) (p - q) := by
  rw [sub_div]
  have h := divInt_bd (a := p.num * q.den - q.num * p.den) (dd_ne p q)
  have h1 := mul_lt hp.1 (dB hq)
  have h2 := mul_lt hq.1 (dB hp)
  rw [Nat.add_comm l k] at h2
  have h3 := sub_lt h1 h2
  have h4 := lt_up (mul_lt (dB hp) (dB hq)) (Nat.le_succ (k + l))
  exact ⟨Nat.lt_of_le_of_lt h.1 h3, Nat.lt_of_le_of_lt h.2 h4⟩
theorem mul_bd (hp : Bd k p) (hq : Bd l q) : Bd (k + l) (p * q) := by
  rw [mul_div]
  have h := divInt_bd (a := p.num * q.num) (dd_ne p q)
  exact ⟨Nat.lt_of_le_of_lt h.1 (mul_lt hp.1 hq.1), Nat.lt_of_le_of_lt h.2 (mul_lt (dB hp) (dB hq))⟩
theorem div_bd (hp : Bd k p) (hq : Bd l q) (h0 : q ≠ 0) : Bd (k + l) (p / q) := by
  rw [div_div]
  have h := divInt_bd (a := p.num * q.den) (Int.mul_ne_zero (den_ne p) (num_ne h0))
  exact ⟨Nat.lt_of_le_of_lt h.1 (mul_lt hp.1 (dB hq)), Nat.lt_of_le_of_lt h.2 (mul_lt (dB hp) hq.1)⟩
end
theorem allK_trues (ds : List D) : allK (ds.map fun _ => .bool true) = .ok (.bool true) := by
  unfold allK
  have h : boolsOf (ds.map fun _ => .bool true) = some (ds.map fun _ => true) := by
    induction ds with
    | nil => rfl
    | cons d ds ih => simp [boolsOf, ih]
  rw [h]
  simp
section
variable {p q : Rat} {k l : Nat}
def ordI (p q : Rat) : Int := p.num * q.den - q.num * p.den
def sgI (a : Int) : Int := if a = 0 then 0 else if 0 < a then 1 else -1
theorem order_eq (hp : Bd k p) (hq : Bd l q) (h : k + l < 7000) : v_order [N p, N q] = .ok (.int (sgI (ordI p q))) := by
  show fnK (b_order [some (.pu (N p)), some (.pu (N q)), none]) = _
  unfold b_order ordI sgI
  simp only [sqO_ap, stO_ap, bin2_ap, varD_zero, varD_succ, cD_ap, k2_ok, ixN0, ixN1,
    mulD_ok hp.1 (dB hq) (by omega), mulD_ok hq.1 (dB hp) (by omega), subD_int, stK_ok, List.set, Out.nx_seq, rtO_ap, ifD_ap, asF_ap, eqD_int, asB_ok]
  generalize p.num * q.den - q.num * p.den = a
  by_cases h0 : a = 0
  · simp [h0]
  · by_cases h1 : 0 < a
    · simp [h0, h1]
    · simp [h0, h1]
theorem ord_zero (p q : Rat) : ordI p q = 0 ↔ p = q := by
  unfold ordI
  constructor
  · intro h
    have := (Rat.divInt_eq_divInt_iff (den_ne p) (den_ne q)).mpr (show p.num * q.den = q.num * p.den by omega)
    rw [Rat.num_divInt_den, Rat.num_divInt_den] at this
    exact this
  · intro h; subst h; omega
theorem ord_neg (p q : Rat) : ordI p q < 0 ↔ p < q := by
  unfold ordI
  rw [Rat.lt_iff]; omega
theorem ord_pos (p q : Rat) : 0 < ordI p q ↔ q < p := by
  unfold ordI
  rw [Rat.lt_iff]; omega
theorem sg_neg (a : Int) : sgI a < 0 ↔ a < 0 := by unfold sgI; split <;> (try split) <;> omega
theorem sg_pos (a : Int) : 0 < sgI a ↔ 0 < a := by unfold sgI; split <;> (try split) <;> omega
end
theorem forO_cons {h : D → EnvS → R EnvS} {gb : EnvS → Out} {d : D} {ds : List D} {ρ ρ1 ρ2 : EnvS} (e1 : h d ρ = .ok ρ1) (e2 : gb ρ1 = .nx ρ2) : forO h gb (d :: ds) ρ = forO h gb ds ρ2 := by
  rw [forO, e1]
  dsimp only
  rw [e2]
def Gd (ds : List Int) : Prop := ∀ x ∈ ds, 0 ≤ x ∧ x < 65521
theorem Gd.snoc {ds : List Int} {x : Int} (h : Gd ds) (h0 : 0 ≤ x) (h1 : x < 65521) : Gd (ds ++ [x]) := fun y hy => by
  rcases List.mem_append.mp hy with hy | hy
  · exact h y hy
  · rw [List.mem_singleton.mp hy]; exact ⟨h0, h1⟩
theorem modK {a : Int} (m : Int) (hm : 0 < m) : modD (.int a) (.int m) = .ok (.int (a % m)) := by
  rw [modD_int, decide_eq_true (show m ≠ 0 by omega), Int.fmod_eq_emod_of_nonneg _ (by omega)]; rfl
theorem fdivK {a : Int} (m : Int) (hm : 0 < m) (h : m < 1000000) : fdivD (.int a) (.int m) = .ok (.int (a / m)) := by
  have : m.natAbs.log2 ≤ 20 := log2_le (Nat.lt_of_lt_of_le (show m.natAbs < 1000000 by omega) (by decide))
  rw [fdivD_int, Int.fdiv_eq_ediv_of_nonneg _ (by omega)]
  unfold divOk
  rw [decide_eq_true (show m ≠ 0 by omega), decide_eq_true (by omega)]; rfl
theorem app_int {i : Nat} {ρ : EnvS} {ds : List Int} {x : Int} (h : ds.length ≤ 100000) : appK i (some (some (.ow (ds.map .int)))) (.ok (.int x)) ρ = .nx (ρ.set i (some (.ow ((ds ++ [x]).map .int)))) := by
  rw [appK_ok (by unfold lineOk; rw [List.length_map]; exact decide_eq_true (by omega)), List.map_append]
  rfl
theorem inner_loop {S M C : Option Sl} {seed : Int} : ∀ (ks : List D) (ds : List Int) (num : Int) (z : Option Sl), 0 ≤ num → Gd ds → ds.length + ks.length ≤ 100000 →
    ∃ ds' num' z', forO (nmG 6) (ifO (asF (bin2 gtD (varD 5) (cD (.int 0)))) (sqO (appO 2 (bin2 modD (callF intG (consA (varD 5) nilA)) (cD (.int 1009)))) (stO 5 (bin2 fdivD (varD 5) (cD (.int 1009))))) nxO) ks
      [S, M, some (.ow (ds.map .int)), some (.pu (.int seed)), C, some (.pu (.int num)), z] = .nx [S, M, some (.ow (ds'.map .int)), some (.pu (.int seed)), C, some (.pu (.int num')), z'] ∧ Gd ds' ∧ ds'.length ≤ ds.length + ks.length := by
  intro ks
  induction ks with
  | nil => exact fun ds num z _ hg _ => ⟨ds, num, z, rfl, hg, Nat.le_refl _⟩
  | cons d ks ih =>
    intro ds num z h0 hg hl
    rw [List.length_cons] at hl
    by_cases hp : 0 < num
    · obtain ⟨ds', num', z', e, h1, h2⟩ := ih (ds ++ [num % 1009]) (num / 1009) (some (.pu d)) (Int.ediv_nonneg h0 (by omega)) (hg.snoc (Int.emod_nonneg _ (by omega)) (by have := Int.emod_lt_of_pos num (show (0:Int) < 1009 by omega); omega)) (by rw [List.length_append, List.length_singleton]; omega)
      refine ⟨ds', num', z', ?_, h1, by rw [List.length_append, List.length_singleton] at h2; rw [List.length_cons]; omega⟩
      rw [forO_cons (ρ1 := [S, M, some (.ow (ds.map .int)), some (.pu (.int seed)), C, some (.pu (.int num)), some (.pu d)]) rfl]
      · exact e
      · simp only [ifO_ap, asF_ap, bin2_ap, varD_zero, varD_succ, cD_ap, k2_ok, gtD_int, decide_eq_true hp, asB_ok, ifK_t, sqO_ap, appO_ap, callF_ap, consA_ap, nilA_ap, cnK_ok, R.ok_bind, intG_int, modK 1009 (by omega), List.getElem?_cons_succ, List.getElem?_cons_zero, app_int (show ds.length ≤ 100000 by omega), Out.nx_seq, List.set, stO_ap, fdivK 1009 (by omega) (by omega), stK_ok]
    · obtain ⟨ds', num', z', e, h1, h2⟩ := ih ds num (some (.pu d)) h0 hg (by omega)
      refine ⟨ds', num', z', ?_, h1, by rw [List.length_cons]; omega⟩
      rw [forO_cons (ρ1 := [S, M, some (.ow (ds.map .int)), some (.pu (.int seed)), C, some (.pu (.int num)), some (.pu d)]) rfl]
      · exact e
      · simp only [ifO_ap, asF_ap, bin2_ap, varD_zero, varD_succ, cD_ap, k2_ok, gtD_int, decide_eq_false hp, asB_ok, ifK_f, nxO_ap]
theorem small_bits {a : Int} (h0 : 0 ≤ a) (h : a < 2147483647) : a.natAbs < 2 ^ 31 := by
  have : (2:Nat) ^ 31 = 2147483648 := by decide
  omega
theorem cell_loop {S M : Option Sl} : ∀ (cs : List Int) (ds : List Int) (seed : Int) (y w z : Option Sl), 0 ≤ seed → seed < 2147483647 → Gd ds → ds.length + 60 * cs.length ≤ 50000 →
    ∃ ds' seed' y' w' z', forO (nmG 4) (sqO (stO 5 (callF absK (consA (varD 4) nilA)))
  (sqO (stO 3 (bin2 modD (callF intG (consA (bin2 addD (bin2 addD (bin2 mulD (varD 3) (cD (.int 48271))) (varD 5)) (cD (.int 11))) nilA)) (cD (.int 2147483647))))
  (ifO (asF (bin2 geD (varD 5) (bin2 powD (cD (.int 10)) (cD (.int 18)))))
  (loO (rng1F (cD (.int 60))) (nmG 6)
  (ifO (asF (bin2 gtD (varD 5) (cD (.int 0))))
  (sqO (appO 2 (bin2 modD (callF intG (consA (varD 5) nilA)) (cD (.int 1009))))
  (stO 5 (bin2 fdivD (varD 5) (cD (.int 1009)))))
  nxO))
  (appO 2 (bin2 modD (bin2 fdivD (callF intG (consA (bin2 addD (bin2 mulD (varD 3) (cD (.int 16807))) (cD (.int 5))) nilA)) (cD (.int 3))) (cD (.int 65521))))))) (cs.map .int)
      [S, M, some (.ow (ds.map .int)), some (.pu (.int seed)), y, w, z] = .nx [S, M, some (.ow (ds'.map .int)), some (.pu (.int seed')), y', w', z'] ∧ Gd ds' ∧ ds'.length ≤ ds.length + 60 * cs.length ∧ 0 ≤ seed' ∧ seed' < 2147483647 := by
  intro cs
  induction cs with
  | nil => exact fun ds seed y w z h0 h1 hg _ => ⟨ds, seed, y, w, z, rfl, hg, Nat.le_refl _, h0, h1⟩
  | cons c cs ih =>
    intro ds seed y w z h0 h1 hg hl
    rw [List.length_cons] at hl
    have hm1 : mulD (.int seed) (.int 48271) = .ok (.int (seed * 48271)) := mulD_ok (small_bits h0 h1) (show (48271 : Int).natAbs < 2 ^ 16 by decide) (by decide)
    generalize hs2 : (seed * 48271 + (if c < 0 then -c else c) + 11) % 2147483647 = s2
    have s20 : 0 ≤ s2 := by rw [← hs2]; exact Int.emod_nonneg _ (by omega)
    have s21 : s2 < 2147483647 := by rw [← hs2]; exact Int.emod_lt_of_pos _ (by omega)
    have hm2 : mulD (.int s2) (.int 16807) = .ok (.int (s2 * 16807)) := mulD_ok (small_bits s20 s21) (show (16807 : Int).natAbs < 2 ^ 16 by decide) (by decide)
    have hpw : powD (.int 10) (.int 18) = .ok (.int 1000000000000000000) := by rfl
    generalize hn : (if c < 0 then -c else c) = n at hs2
    have hn0 : 0 ≤ n := by rw [← hn]; split <;> omega
    by_cases hbig : 1000000000000000000 ≤ n
    · obtain ⟨ds1, n1, z1, e1, g1, l1⟩ := inner_loop (S := S) (M := M) (C := some (.pu (.int c))) (seed := s2) (rngD 0 60) ds n z hn0 hg (by unfold rngD; rw [List.length_map, List.length_range]; omega)
      have hr : (rngD 0 60).length = 60 := by unfold rngD; rw [List.length_map, List.length_range]
      obtain ⟨ds', seed', y', w', z', e, h2, h3, h4, h5⟩ := ih ds1 s2 (some (.pu (.int c))) (some (.pu (.int n1))) z1 s20 s21 g1 (by omega)
      refine ⟨ds', seed', y', w', z', ?_, h2, by rw [List.length_cons]; omega, h4, h5⟩
      rw [List.map_cons, forO_cons (ρ1 := [S, M, some (.ow (ds.map .int)), some (.pu (.int seed)), some (.pu (.int c)), w, z]) rfl]
      · exact e
      · simp only [sqO_ap, stO_ap, callF_ap, consA_ap, varD_zero, varD_succ, nilA_ap, cnK_ok, R.ok_bind, absK_int, hn, stK_ok, List.set, Out.nx_seq, bin2_ap, cD_ap, k2_ok, hm1, addD_int, intG_int, modK 2147483647 (by omega), hs2, ifO_ap, asF_ap, hpw, geD_int, decide_eq_true hbig, asB_ok, ifK_t, loO_ap, rng1F_ap]
        rw [show rgK (.ok (.int 60)) = .ok (rngD 0 60) from rfl, loK_ok]
        exact e1
    · have hx0 : 0 ≤ (s2 * 16807 + 5) / 3 % 65521 := Int.emod_nonneg _ (by omega)
      have hx1 : (s2 * 16807 + 5) / 3 % 65521 < 65521 := Int.emod_lt_of_pos _ (by omega)
      obtain ⟨ds', seed', y', w', z', e, h2, h3, h4, h5⟩ := ih (ds ++ [(s2 * 16807 + 5) / 3 % 65521]) s2 (some (.pu (.int c))) (some (.pu (.int n))) z s20 s21 (hg.snoc hx0 hx1) (by rw [List.length_append, List.length_singleton]; omega)
      refine ⟨ds', seed', y', w', z', ?_, h2, by rw [List.length_append, List.length_singleton] at h3; rw [List.length_cons]; omega, h4, h5⟩
      rw [List.map_cons, forO_cons (ρ1 := [S, M, some (.ow (ds.map .int)), some (.pu (.int seed)), some (.pu (.int c)), w, z]) rfl]
      · exact e
      · simp only [sqO_ap, stO_ap, callF_ap, consA_ap, varD_zero, varD_succ, nilA_ap, cnK_ok, R.ok_bind, absK_int, hn, stK_ok, List.set, Out.nx_seq, bin2_ap, cD_ap, k2_ok, hm1, addD_int, intG_int, modK 2147483647 (by omega), hs2, ifO_ap, asF_ap, hpw, geD_int, decide_eq_false hbig, asB_ok, ifK_f, appO_ap, hm2, fdivK 3 (by omega) (by omega), modK 65521 (by omega), List.getElem?_cons_succ, List.getElem?_cons_zero, app_int (show ds.length ≤ 100000 by omega)]
theorem fill_loop {S : Option Sl} {m : Nat} (hm : m ≤ 1000) : ∀ (ks : List Int) (ds : List Int) (seed : Int) (y w z : Option Sl), 0 ≤ seed → seed < 2147483647 → Gd ds → ds.length ≤ 50000 →
    ∃ ds' seed' z', forO (nmG 6)
  (ifO (asF (bin2 ltD (callF (fun ds => .ok (.int ds.length)) (ownD 2)) (varD 1)))
  (sqO (stO 3 (bin2 modD (callF intG (consA (bin2 addD (bin2 addD (bin2 mulD (varD 3) (cD (.int 69621))) (varD 6)) (cD (.int 1))) nilA)) (cD (.int 2147483647))))
  (appO 2 (bin2 modD (bin2 fdivD (callF intG (consA (varD 3) nilA)) (cD (.int 7))) (cD (.int 65521)))))
  nxO) (ks.map .int)
      [S, some (.pu (.int m)), some (.ow (ds.map .int)), some (.pu (.int seed)), y, w, z] = .nx [S, some (.pu (.int m)), some (.ow (ds'.map .int)), some (.pu (.int seed')), y, w, z'] ∧ Gd ds' ∧ (m ≤ ds'.length ∨ ds.length + ks.length ≤ ds'.length) := by
  intro ks
  induction ks with
  | nil => exact fun ds seed y w z h0 h1 hg _ => ⟨ds, seed, z, rfl, hg, .inr (Nat.le_refl _)⟩
  | cons c cs ih =>
    intro ds seed y w z h0 h1 hg hl
    have hm1 : mulD (.int seed) (.int 69621) = .ok (.int (seed * 69621)) := mulD_ok (small_bits h0 h1) (show (69621 : Int).natAbs < 2 ^ 17 by decide) (by decide)
    have hown : (R.ok (List.map PyData.int ds)).bind (fun ds => R.ok (PyData.int ds.length)) = .ok (.int ds.length) := by
      rw [R.ok_bind, List.length_map]
    by_cases hlt : (ds.length : Int) < m
    · generalize hs2 : (seed * 69621 + c + 1) % 2147483647 = s2
      have s20 : 0 ≤ s2 := by rw [← hs2]; exact Int.emod_nonneg _ (by omega)
      have s21 : s2 < 2147483647 := by rw [← hs2]; exact Int.emod_lt_of_pos _ (by omega)
      have hx0 : 0 ≤ s2 / 7 % 65521 := Int.emod_nonneg _ (by omega)
      have hx1 : s2 / 7 % 65521 < 65521 := Int.emod_lt_of_pos _ (by omega)
      obtain ⟨ds', seed', z', e, h2, h3⟩ := ih (ds ++ [s2 / 7 % 65521]) s2 y w (some (.pu (.int c))) s20 s21 (hg.snoc hx0 hx1) (by rw [List.length_append, List.length_singleton]; omega)
      refine ⟨ds', seed', z', ?_, h2, by rw [List.length_append, List.length_singleton] at h3; rw [List.length_cons]; omega⟩
      rw [List.map_cons, forO_cons (ρ1 := [S, some (.pu (.int m)), some (.ow (ds.map .int)), some (.pu (.int seed)), y, w, some (.pu (.int c))]) rfl]
      · exact e
      · simp only [ifO_ap, asF_ap, bin2_ap, callF_ap, ownD_zero, ownD_succ, hown, varD_zero, varD_succ, k2_ok, ltD_int, decide_eq_true hlt, asB_ok, ifK_t, sqO_ap, stO_ap, consA_ap, nilA_ap, cnK_ok, R.ok_bind, stK_ok, List.set, Out.nx_seq, cD_ap, hm1, addD_int, intG_int, modK 2147483647 (by omega), hs2, appO_ap, fdivK 7 (by omega) (by omega), modK 65521 (by omega), List.getElem?_cons_succ, List.getElem?_cons_zero, app_int (show ds.length ≤ 100000 by omega)]
    · obtain ⟨ds', seed', z', e, h2, h3⟩ := ih ds seed y w (some (.pu (.int c))) h0 h1 hg hl
      refine ⟨ds', seed', z', ?_, h2, .inl (by rcases h3 with h3 | h3 <;> omega)⟩
      rw [List.map_cons, forO_cons (ρ1 := [S, some (.pu (.int m)), some (.ow (ds.map .int)), some (.pu (.int seed)), y, w, some (.pu (.int c))]) rfl]
      · exact e
      · simp only [ifO_ap, asF_ap, bin2_ap, callF_ap, ownD_zero, ownD_succ, hown, varD_zero, varD_succ, k2_ok, ltD_int, decide_eq_false hlt, asB_ok, ifK_f, nxO_ap]
theorem cut_take {α : Type} (xs : List α) (m : Nat) : TD.cutD xs none (some (m : Int)) = xs.take m := by
  unfold TD.cutD
  rw [HT.sIx_none, HT.sIx_nat, List.drop_zero, Nat.sub_zero]
  by_cases h : m ≤ xs.length
  · rw [Nat.min_eq_left h]
  · rw [Nat.min_eq_right (by omega), List.take_of_length_le (Nat.le_refl _), List.take_of_length_le (by omega)]
theorem rg_ok {m : Nat} (hm : m ≤ 1000) : rgK (.ok (.int m)) = .ok (rngD 0 m) := by
  have h3 : rngOk (m : Int) = true := by
    unfold rngOk
    rw [Bool.and_eq_true, decide_eq_true_eq, decide_eq_true_eq]
    have e : (2:Int) ^ 62 = 4611686018427387904 := rfl
    rw [e]
    omega
  unfold rgK
  rw [R.ok_bind]
  dsimp only
  rw [if_pos h3, Int.toNat_natCast]
theorem draws_eq (ns : List Int) (m : Nat) (hm : m ≤ 1000) : ∃ ds : List Int, ds.length = m ∧ Gd ds ∧ v__law_draws [scrD ns, .int m] = .ok (.list (ds.map .int)) := by
  obtain ⟨d1, s1, y1, w1, z1, e1, g1, l1, a1, b1⟩ := cell_loop (S := some (.pu (scrD ns))) (M := some (.pu (.int m))) (ns.take 63) [] 7 none none none (by omega) (by omega) (fun x h => absurd h List.not_mem_nil) (by
    have := List.length_take_le 63 ns
    simp only [List.length_nil]; omega)
  have hl1 : d1.length ≤ 50000 := by
    have := List.length_take_le 63 ns
    simp only [List.length_nil] at l1; omega
  obtain ⟨d2, s2, z2, e2, g2, l2⟩ := fill_loop (S := some (.pu (scrD ns))) hm ((List.range m).map fun i => (0 : Int) + (i : Nat)) d1 s1 y1 w1 z1 a1 b1 g1 hl1
  rw [List.map_map] at e2
  rw [List.length_map, List.length_range] at l2
  refine ⟨d2.take m, by rw [List.length_take]; omega, fun x hx => g2 x (List.mem_of_mem_take hx), ?_⟩
  show fnK (b__law_draws [some (.pu (scrD ns)), some (.pu (.int m)), none, none, none, none, none]) = _
  unfold b__law_draws
  have hS : slcL (asSF (varD 0)) noP (someP (cD (.int 63))) [some (.pu (scrD ns)), some (.pu (.int m)), some (.ow []), some (.pu (.int 7)), none, none, none] = .ok ((ns.take 63).map .int) := by
    rw [slcL_ap, show asSF (varD 0) [some (.pu (scrD ns)), some (.pu (.int m)), some (.ow []), some (.pu (.int 7)), none, none, none] = .ok (ns.map .int) from rfl, noP_ap, someP_ap, cD_ap, smK_ok, slLK_ok]
    rw [show (63 : Int) = ((63 : Nat) : Int) from rfl, cut_take, List.map_take]
  have hR := rg_ok hm
  simp only [sqO_ap, owO_ap, newD_ap, nilA_ap, nwK_0, owK_ok, List.set, Out.nx_seq, stO_ap, cD_ap, stK_ok, loO_ap, seqF_ap, lstF_ap, hS, lsK_ok, sqK_l, loK_ok]
  rw [List.map_nil] at e1
  rw [e1]
  rw [Out.nx_seq, sqO_ap, loO_ap, rng1F_ap, varD_succ, varD_zero, hR, loK_ok]
  rw [show rngD 0 m = List.map (PyData.int ∘ fun i : Nat => (0 : Int) + (i : Nat)) (List.range m) from rfl, e2]
  simp only [sqO_ap, Out.nx_seq, rtO_ap, lstF_ap, slcL_ap, ownD_zero, ownD_succ, noP_ap, someP_ap, varD_zero, varD_succ, smK_ok, slLK_ok, cut_take, lsK_ok, rtK_ok, fnK_rt, List.map_take]
end Mt

namespace Mt
open PySem PySem.Spec PyProof.Rows L2 TD Dn
theorem made_eq {a b : Int} (hb : b ≠ 0) (hs : b.natAbs < 2 ^ 8000) : v_made [.int a, .int b] = .ok (N (Rat.divInt a b)) := by
  obtain ⟨n, d, ha, hbd, hd, hg, hc⟩ := made_core (a := a) rfl hb
  generalize hcc : (if b < 0 then -(Int.gcd a b : Int) else Int.gcd a b) = c at ha hbd hc
  have hN : N (Rat.divInt a b) = .tuple [.int (a.fdiv c), .int (b.fdiv c)] := by
    have e := divInt_N (n := n) hd hg hc
    rw [← ha, ← hbd] at e
    unfold N
    rw [e.1, e.2]
    rw [show a.fdiv c = n by rw [ha]; exact fdiv_mul hc, show b.fdiv c = d by rw [hbd]; exact fdiv_mul hc]
  have hcs : c.natAbs < 2 ^ 8000 := by
    have : c.natAbs ≤ b.natAbs := Nat.le_of_dvd (by omega) (Int.natAbs_dvd_natAbs.mpr ⟨d, by rw [Int.mul_comm]; exact hbd⟩)
    omega
  have hok : divOk c = true := by
    unfold divOk
    have := log2_le hcs
    rw [decide_eq_true hc, decide_eq_true (by omega)]; rfl
  rw [hN]
  show fnK (b_made [some (.pu (.int a)), some (.pu (.int b)), none]) = _
  unfold b_made
  by_cases hneg : b < 0
  · rw [if_pos hneg] at hcc
    subst hcc
    simp [divisor_eq, hneg, fdivD_int, hok]
  · rw [if_neg hneg] at hcc
    subst hcc
    simp [divisor_eq, hneg, fdivD_int, hok]
section
variable {p q : Rat} {k l : Nat}
theorem sum_eq (hp : Bd k p) (hq : Bd l q) (h : k + l < 7000) : v_sum_of [N p, N q] = .ok (N (p + q)) := by
  have hs := mul_lt (dB hp) (dB hq)
  show fnK (b_sum_of [some (.pu (N p)), some (.pu (N q))]) = _
  unfold b_sum_of
  simp only [rtO_ap, callU_ap, consA_ap, bin2_ap, varD_zero, varD_succ, cD_ap, k2_ok, ixN0, ixN1, nilA_ap,
    mulD_ok hp.1 (dB hq) (by omega), mulD_ok hq.1 (dB hp) (by omega), mulD_ok (dB hp) (dB hq) (by omega), addD_int, cnK_ok, cuK_2]
  rw [made_eq (dd_ne p q) (lt_up hs (by omega)), ← add_div]
  rfl
end
end Mt

namespace Mt
open PySem PySem.Spec PyProof.Rows L2 TD Dn
section
variable {ρ : EnvS} {f g : EnvS → R D} {t t' : EnvS → R Bool} {o : EnvS → Out}
theorem or_ff (h1 : t ρ = .ok false) (h2 : t' ρ = .ok false) : orB t t' ρ = .ok false := by rw [orB_ap, h1, orK_f, h2]
theorem if_skip (h : t ρ = .ok false) : ifO t o nxO ρ = .nx ρ := by rw [ifO_ap, h, ifK_f, nxO_ap]
theorem sq_nx {ρ1 : EnvS} {o1 o2 : EnvS → Out} (h : o1 ρ = .nx ρ1) : sqO o1 o2 ρ = o2 ρ1 := by rw [sqO_ap, h, Out.nx_seq]
theorem st_nx {i : Nat} {d : D} (h : f ρ = .ok d) : stO i f ρ = .nx (ρ.set i (some (.pu d))) := by rw [stO_ap, h, stK_ok]
theorem not_f (h : t ρ = .ok true) : notB t ρ = .ok false := by rw [notB_ap, h, notK_ok]; rfl
theorem as_t (h : f ρ = .ok (.bool true)) : asF f ρ = .ok true := by rw [asF_ap, h, asB_ok]
theorem as_f (h : f ρ = .ok (.bool false)) : asF f ρ = .ok false := by rw [asF_ap, h, asB_ok]
theorem ne_same {d : D} (h : okD d = true) (hp : PyData.eqv d d = true) : neD d d = .ok (.bool false) := by
  unfold neD; rw [h, hp]; rfl
theorem as_ne {d : D} (hf : f ρ = .ok d) (hg : g ρ = .ok d) (h : okD d = true) (hp : PyData.eqv d d = true) : asF (bin2 neD f g) ρ = .ok false := by
  rw [asF_ap, bin2_ap, hf, hg, k2_ok, ne_same h hp, asB_ok]
end
theorem compO_cons {h : D → EnvS → R EnvS} {f : EnvS → R D} {ρ ρ1 : EnvS} {d v : D} {ds vs : List D} (e1 : h d ρ = .ok ρ1) (e2 : f ρ1 = .ok v) (e3 : compO h yesB f ds ρ = .ok vs) : compO h yesB f (d :: ds) ρ = .ok (v :: vs) := by
  unfold compO
  rw [e1]
  dsimp only [yesB]
  rw [e2, e3]
theorem heN (r : Rat) : PyData.eqv (N r) (N r) = true := by rw [eqv_N]; exact decide_eq_true rfl
/-! ### the law's own numbers -/
theorem frac_loop {A B : Option Sl} : ∀ (b a : Nat), ∃ n, whO (asF (bin2 gtD (varD 3) (cD (.int 0)))) (parO 2 3 (consA (varD 3) (consA (bin2 modD (varD 2) (varD 3)) nilA))) n [A, B, some (.pu (.int a)), some (.pu (.int b))] = .nx [A, B, some (.pu (.int (Nat.gcd a b : Nat))), some (.pu (.int 0))] := by
  intro b
  induction b using Nat.strongRecOn with
  | _ b ih =>
    intro a
    by_cases h : b = 0
    · subst h
      exact ⟨1, by simp [whO]⟩
    · obtain ⟨n, e⟩ := ih (a % b) (Nat.mod_lt _ (Nat.pos_of_ne_zero h)) b
      refine ⟨n + 1, ?_⟩
      have hb : (0:Int) < (b : Int) := by omega
      have hb' : decide ((b : Int) ≠ 0) = true := by simp [h]
      have hg : decide ((0:Int) < (b : Int)) = true := decide_eq_true hb
      have e1 : parO 2 3 (consA (varD 3) (consA (bin2 modD (varD 2) (varD 3)) nilA)) [A, B, some (.pu (.int a)), some (.pu (.int b))] = .nx [A, B, some (.pu (.int b)), some (.pu (.int (a % b : Nat)))] := by
        simp only [parO_ap, consA_ap, varD_succ, varD_zero, bin2_ap, nilA_ap, k2_ok, modD_int, hb', if_true, cnK_ok, parK_ok, List.set, fmodN]
      have e0 : asF (bin2 gtD (varD 3) (cD (.int 0))) [A, B, some (.pu (.int a)), some (.pu (.int b))] = .ok true := by
        simp only [asF_ap, varD_succ, varD_zero, bin2_ap, cD_ap, k2_ok, gtD_int, hg, asB_ok]
      rw [whO, e0, R.ok_out, if_pos rfl, e1]
      rw [Nat.gcd_comm a b, Nat.gcd_rec b a]
      rw [Nat.gcd_comm] at e
      exact e
theorem frac_eq {a b : Int} (hb : 0 < b) (hs : b.natAbs < 2 ^ 8000) : v__law_frac [.int a, .int b] = .ok (N (Rat.divInt a b)) := by
  have hbne : b ≠ 0 := by omega
  obtain ⟨n, d, ha, hbd, hd, hg, hc⟩ := made_core (a := a) (b := b) rfl hbne
  rw [if_neg (show ¬ b < 0 by omega)] at ha hbd hc
  generalize hcc : (Int.gcd a b : Int) = c at ha hbd hc
  have hN : N (Rat.divInt a b) = .tuple [.int (a.fdiv c), .int (b.fdiv c)] := by
    have e := divInt_N (n := n) hd hg hc
    rw [← ha, ← hbd] at e
    unfold N
    rw [e.1, e.2]
    rw [show a.fdiv c = n by rw [ha]; exact fdiv_mul hc, show b.fdiv c = d by rw [hbd]; exact fdiv_mul hc]
  have hcs : c.natAbs < 2 ^ 8000 := by
    have : c.natAbs ≤ b.natAbs := Nat.le_of_dvd (by omega) (Int.natAbs_dvd_natAbs.mpr ⟨d, by rw [Int.mul_comm]; exact hbd⟩)
    omega
  have hok : divOk c = true := by
    unfold divOk
    have := log2_le hcs
    rw [decide_eq_true hc, decide_eq_true (by omega)]; rfl
  have hA : (if a < 0 then -a else a) = (a.natAbs : Int) := by split <;> omega
  obtain ⟨m, e⟩ := frac_loop (A := some (.pu (.int a))) (B := some (.pu (.int b))) b.natAbs a.natAbs
  have hbn : ((b.natAbs : Nat) : Int) = b := by omega
  have hgn : ((Nat.gcd a.natAbs b.natAbs : Nat) : Int) = c := hcc
  rw [hgn, hbn] at e
  have e2 := whX_eq m e (by intro h; cases h)
  rw [hN]
  show fnK (b__law_frac [some (.pu (.int a)), some (.pu (.int b)), none, none]) = _
  unfold b__law_frac
  refine (congrArg fnK (sq_nx (ρ1 := [some (.pu (.int a)), some (.pu (.int b)), some (.pu (.int a.natAbs)), some (.pu (.int b))]) ?_)).trans ?_
  · simp only [parO_ap, consA_ap, callF_ap, varD_zero, varD_succ, nilA_ap, cnK_ok, R.ok_bind, absK_int, hA, parK_ok, List.set]
  refine (congrArg fnK (sq_nx e2)).trans ?_
  simp only [rtO_ap, tupD_ap, consA_ap, bin2_ap, varD_zero, varD_succ, nilA_ap, k2_ok, fdivD_int, hok, if_true, cnK_ok, tuK_2, rtK_ok, fnK_rt]
section
variable {p q : Rat} {k l : Nat}
theorem ord_le (p q : Rat) : sgI (ordI p q) ≤ 0 ↔ p ≤ q := by
  have h1 := sg_pos (ordI p q)
  have h2 := ord_pos p q
  rw [← Rat.not_lt, ← h2, ← h1]
  omega
end
theorem cut_drop {α : Type} (xs : List α) {p : Nat} (h : p ≤ xs.length) : TD.cutD xs (some (p : Int)) none = xs.drop p := by
  unfold TD.cutD
  rw [HT.sIx_none, HT.sIx_nat, Nat.min_eq_left h]
  exact List.take_of_length_le (by rw [List.length_drop]; exact Nat.le_refl _)
theorem fnK_rtK {r : R D} {ρ : EnvS} : fnK (rtK r ρ) = r := by cases r <;> rfl
theorem forO_rt {h : D → EnvS → R EnvS} {gb : EnvS → Out} {d r : D} {ds : List D} {ρ ρ1 : EnvS} (e1 : h d ρ = .ok ρ1) (e2 : gb ρ1 = .rt r) : forO h gb (d :: ds) ρ = .rt r := by
  unfold forO; rw [e1]; dsimp only; rw [e2]
theorem rt_seq {f : EnvS → R D} {ρ : EnvS} {k : EnvS → Out} : fnK ((rtO f ρ).seq k) = f ρ := by rw [rtO_ap]; cases f ρ <;> rfl
theorem wh_go (hc : c ρ = .ok true) (hb : gb ρ = .nx ρ2) : whO c gb (n + 1) ρ = whO c gb n ρ2 := by rw [whO, hc, R.ok_out, if_pos rfl, hb]
theorem wh_rt {d : D} (hc : c ρ = .ok true) (hb : gb ρ = .rt d) : whO c gb (n + 1) ρ = .rt d := by rw [whO, hc, R.ok_out, if_pos rfl, hb]
theorem wh_stop (hc : c ρ = .ok false) : whO c gb (n + 1) ρ = .nx ρ := by rw [whO, hc, R.ok_out, if_neg (by decide)]
theorem cut_tail {α : Type} (x : α) (xs : List α) : TD.cutD (x :: xs) (some 1) none = xs := by
  rw [show (1 : Int) = ((1 : Nat) : Int) from rfl, cut_drop _ (by rw [List.length_cons]; omega)]
  rfl
theorem comp_map {α : Type} {i : Nat} {fe : EnvS → R D} {ρ : EnvS} {g h : α → D} (xs : List α) (hf : ∀ x ∈ xs, fe (ρ.set i (some (.pu (g x)))) = .ok (h x)) : compO (nmG i) yesB fe (xs.map g) ρ = .ok (xs.map h) := by
  induction xs with
  | nil => rfl
  | cons x xs ih =>
    rw [List.map_cons, List.map_cons]
    exact compO_cons (ρ1 := ρ.set i (some (.pu (g x)))) rfl (hf x List.mem_cons_self) (ih fun y hy => hf y (List.mem_cons_of_mem _ hy))
theorem allK_map (bs : List Bool) : allK (bs.map .bool) = .ok (.bool (bs.all id)) := by
  unfold allK
  rw [boolsOf_map]
theorem comp_filtG {α : Type} {i : Nat} {fe : EnvS → R D} {te : EnvS → R Bool} {ρ : EnvS} {p : α → Bool} {g h : α → D} (xs : List α) (ht : ∀ x ∈ xs, te (ρ.set i (some (.pu (g x)))) = .ok (p x)) (hf : ∀ x ∈ xs, fe (ρ.set i (some (.pu (g x)))) = .ok (h x)) : compO (nmG i) te fe (xs.map g) ρ = .ok ((xs.filter p).map h) := by
  induction xs with
  | nil => rfl
  | cons x xs ih =>
    have e := ih (fun y hy => ht y (List.mem_cons_of_mem _ hy)) (fun y hy => hf y (List.mem_cons_of_mem _ hy))
    rw [List.map_cons]
    unfold compO
    rw [nmG_ap]
    dsimp only
    rw [ht x List.mem_cons_self]
    cases hp : p x with
    | true =>
      dsimp only
      rw [hf x List.mem_cons_self, e, List.filter_cons_of_pos hp]
      rfl
    | false =>
      dsimp only
      rw [e, List.filter_cons_of_neg (by rw [hp]; exact Bool.false_ne_true)]
section
variable {p q : Rat} {k l : Nat}
theorem prod_eq (hp : Bd k p) (hq : Bd l q) (h : k + l < 7000) : v_product [N p, N q] = .ok (N (p * q)) := by
  have hs := mul_lt (dB hp) (dB hq)
  show fnK (b_product [some (.pu (N p)), some (.pu (N q))]) = _
  unfold b_product
  simp only [rtO_ap, callU_ap, consA_ap, bin2_ap, varD_zero, varD_succ, cD_ap, k2_ok, ixN0, ixN1, nilA_ap,
    mulD_ok hp.1 hq.1 (by omega), mulD_ok (dB hp) (dB hq) (by omega), cnK_ok, cuK_2]
  rw [made_eq (dd_ne p q) (lt_up hs (by omega)), ← mul_div]
  rfl
end
/-! ### data of any form -/
mutual
def niceD : D → Bool
  | .int i => decide (i.natAbs < 2 ^ 300)
  | .list ds => niceL ds
  | .tuple ds => niceL ds
  | .dict _ => false
  | .none => true
  | .bool _ => true
  | .str x => okD (.str x)
def niceL : List D → Bool
  | [] => true
  | d :: ds => niceD d && niceL ds
end
theorem nice_nd {d : D} (h : niceD d = true) : isDict d = false := by
  cases d with
  | dict => rw [niceD] at h; cases h
  | _ => rfl
theorem niceL_cons {d : D} {ds : List D} (h : niceL (d :: ds) = true) : niceD d = true ∧ niceL ds = true := by
  rw [niceL, Bool.and_eq_true] at h; exact h
theorem niceT {ds : List D} (h : niceD (.tuple ds) = true) : niceL ds = true := by rwa [niceD] at h
theorem niceI {a : Int} (h : niceD (.int a) = true) : a.natAbs < 2 ^ 300 := by rw [niceD] at h; exact of_decide_eq_true h
def intB : D → Bool | .int _ => true | _ => false
theorem intB_inv {d : D} (h : intB d = true) : ∃ a, d = .int a := by
  cases d <;> first | exact ⟨_, rfl⟩ | cases h
theorem isint_eq {d : D} (h : isDict d = false) : v_is_integer [d] = .ok (.bool (intB d)) := by
  cases d with
  | int a => exact isint_int a
  | _ => exact isint_other (by first | exact .inl rfl | exact .inr rfl) h
def numB : D → Bool
  | .tuple [.int a, .int b] => decide (1 ≤ b) && decide ((Int.gcd a b : Int) = 1)
  | _ => false
theorem numB_no {x y : D} (h : intB x = false ∨ intB y = false) : numB (.tuple [x, y]) = false := by
  cases x <;> first | rfl | (cases y <;> first | rfl | (rcases h with h | h <;> cases h))
theorem isnum_eq {d : D} (h : niceD d = true) : v_is_number [d] = .ok (.bool (numB d)) := by
  have hd := nice_nd h
  cases d with
  | dict => cases hd
  | tuple ds =>
    match ds, h with
    | [], _ =>
      show fnK (b_is_number [some (.pu (.tuple []))]) = _
      unfold b_is_number
      simp [isiK, tyName, kit_tt, neD_int, numB]
    | [x], _ =>
      show fnK (b_is_number [some (.pu (.tuple [x]))]) = _
      unfold b_is_number
      simp [isiK, tyName, kit_tt, neD_int, numB]
    | [x, y], h =>
      obtain ⟨hx, h⟩ := niceL_cons (niceT h)
      obtain ⟨hy, _⟩ := niceL_cons h
      have ex := isint_eq (nice_nd hx)
      have ey := isint_eq (nice_nd hy)
      cases hix : intB x with
      | false =>
        rw [hix] at ex
        rw [numB_no (.inl hix)]
        show fnK (b_is_number [some (.pu (.tuple [x, y]))]) = _
        unfold b_is_number
        simp [isiK, tyName, kit_tt, neD_int, ex]
      | true =>
        cases hiy : intB y with
        | false =>
          rw [hix] at ex
          rw [hiy] at ey
          rw [numB_no (.inr hiy)]
          show fnK (b_is_number [some (.pu (.tuple [x, y]))]) = _
          unfold b_is_number
          simp [isiK, tyName, kit_tt, neD_int, ex, ey]
        | true =>
          obtain ⟨a, rfl⟩ := intB_inv hix
          obtain ⟨b, rfl⟩ := intB_inv hiy
          exact isnum_pair a b
    | x :: y :: z :: r, _ =>
      have hl : decide (((r.length : Int) + 1 + 1 + 1) = 2) = false := decide_eq_false (by omega)
      show fnK (b_is_number [some (.pu (.tuple (x :: y :: z :: r)))]) = _
      unfold b_is_number
      simp [isiK, tyName, kit_tt, neD_int, numB, -decide_eq_false_iff_not, hl]
  | _ =>
    unfold v_is_number
    rw [fnR_ap]
    unfold b_is_number
    simp [argS, isiK, tyName, kit_nt, kit_bt, kit_it, kit_st, kit_lt, numB]
theorem numB_N (q : Rat) : numB (N q) = true := by
  have h := isnum_N q
  unfold N at h
  rw [isnum_pair] at h
  injection h with h
  injection h
theorem num_inv {d : D} (hn : niceD d = true) (h : numB d = true) : ∃ q : Rat, d = N q ∧ Bd 300 q := by
  unfold numB at h
  split at h
  · rename_i a b
    rw [Bool.and_eq_true] at h
    have hb := of_decide_eq_true h.1
    have hg := of_decide_eq_true h.2
    obtain ⟨e1, e2⟩ := divInt_N (n := a) (d := b) (c := 1) (by omega) (by omega) (by omega)
    rw [Int.mul_one, Int.mul_one] at e1 e2
    obtain ⟨ha, hn⟩ := niceL_cons (niceT hn)
    obtain ⟨hb2, _⟩ := niceL_cons hn
    refine ⟨Rat.divInt a b, ?_, ?_, ?_⟩
    · unfold N; rw [e1, e2]
    · rw [e1]; exact niceI ha
    · have := niceI hb2
      omega
  · cases h
theorem nice_int {a : Int} (h : a.natAbs < 2 ^ 300) : niceD (.int a) = true := by rw [niceD]; exact decide_eq_true h
theorem nice_N {q : Rat} (h : Bd 300 q) : niceD (N q) = true := by
  unfold N
  rw [niceD, niceL, niceL, niceL, nice_int h.1, nice_int (by rw [Int.natAbs_natCast]; exact h.2)]
  rfl
end Mt

namespace Mt
open PySem PySem.Spec PyProof.Rows L2 TD Dn
/-! ### points of whole numbers -/
abbrev Pt := Int × Int
def Sm (p : Pt) : Prop := p.1.natAbs ≤ 1000 ∧ p.2.natAbs ≤ 1000
instance (p : Pt) : Decidable (Sm p) := by unfold Sm; infer_instance
@[simp] theorem ixP0 (p : Pt) : ixD (prD2 p) (.int 0) = .ok (.int p.1) := rfl
@[simp] theorem ixP1 (p : Pt) : ixD (prD2 p) (.int 1) = .ok (.int p.2) := rfl
theorem p11 : (2 : Nat) ^ 11 = 2048 := by decide
theorem p12 : (2 : Nat) ^ 12 = 4096 := by decide
theorem mul11 {x y : Int} (hx : x.natAbs ≤ 2000) (hy : y.natAbs ≤ 2000) : mulD (.int x) (.int y) = .ok (.int (x * y)) := mulD_ok (k := 11) (l := 11) (by rw [p11]; omega) (by rw [p11]; omega) (by decide)
theorem df {x y : Int} (hx : x.natAbs ≤ 1000) (hy : y.natAbs ≤ 1000) : (x - y).natAbs ≤ 2000 := by omega
def turnP (a b c : Pt) : Int := (b.1 - a.1) * (c.2 - b.2) - (b.2 - a.2) * (c.1 - b.1)
def lturnP (a b c : Pt) : Int := (b.1 - a.1) * (c.2 - a.2) - (b.2 - a.2) * (c.1 - a.1)
theorem turn_same (a b c : Pt) : turnP a b c = lturnP a b c := by
  unfold turnP lturnP
  generalize a.1 = p; generalize a.2 = q; generalize b.1 = r; generalize b.2 = s; generalize c.1 = t; generalize c.2 = u
  rw [Int.sub_mul, Int.sub_mul, Int.sub_mul, Int.sub_mul, Int.mul_sub, Int.mul_sub, Int.mul_sub, Int.mul_sub, Int.mul_sub, Int.mul_sub, Int.mul_sub, Int.mul_sub]
  rw [Int.mul_comm s r, Int.mul_comm q r, Int.mul_comm s p, Int.mul_comm q p]
  omega
theorem turn_eq {a b c : Pt} (ha : Sm a) (hb : Sm b) (hc : Sm c) : v_turn [prD2 a, prD2 b, prD2 c] = .ok (.int (turnP a b c)) := by
  show fnK (b_turn [some (.pu (prD2 a)), some (.pu (prD2 b)), some (.pu (prD2 c))]) = _
  unfold b_turn
  simp only [rtO_ap, bin2_ap, varD_zero, varD_succ, cD_ap, k2_ok, ixP0, ixP1, subD_int, mul11 (df hb.1 ha.1) (df hc.2 hb.2), mul11 (df hb.2 ha.2) (df hc.1 hb.1), rtK_ok, fnK_rt]
  rfl
theorem lturn_eq {a b c : Pt} (ha : Sm a) (hb : Sm b) (hc : Sm c) : v__law_turn [prD2 a, prD2 b, prD2 c] = .ok (.int (lturnP a b c)) := by
  show fnK (b__law_turn [some (.pu (prD2 a)), some (.pu (prD2 b)), some (.pu (prD2 c))]) = _
  unfold b__law_turn
  simp only [rtO_ap, bin2_ap, varD_zero, varD_succ, cD_ap, k2_ok, ixP0, ixP1, subD_int, mul11 (df hb.1 ha.1) (df hc.2 ha.2), mul11 (df hb.2 ha.2) (df hc.1 ha.1), rtK_ok, fnK_rt]
  rfl
theorem eqv_pr (p q : Pt) : PyData.eqv (prD2 p) (prD2 q) = decide (p = q) := by
  show PyData.eqv (.tuple [.int p.1, .int p.2]) (.tuple [.int q.1, .int q.2]) = _
  rw [show PyData.eqv (.tuple [.int p.1, .int p.2]) (.tuple [.int q.1, .int q.2]) = PyData.eqvAll [.int p.1, .int p.2] [.int q.1, .int q.2] by rw [PyData.eqv]]
  rw [PyData.eqvAll, PyData.eqvAll, PyData.eqvAll, eqv_int, eqv_int, Bool.and_true]
  by_cases h : p = q
  · subst h; simp
  · rw [decide_eq_false h]
    refine Bool.eq_false_iff.mpr fun z => h ?_
    rw [Bool.and_eq_true, decide_eq_true_eq, decide_eq_true_eq] at z
    exact Prod.ext z.1 z.2
theorem eqD_pr (p q : Pt) : eqD (prD2 p) (prD2 q) = .ok (.bool (decide (p = q))) := by unfold eqD; rw [eqv_pr]; rfl
theorem neD_pr (p q : Pt) : neD (prD2 p) (prD2 q) = .ok (.bool (!decide (p = q))) := by unfold neD; rw [eqv_pr]; rfl
/-! ### sorted, each once -/
def ltP2 (p q : Pt) : Bool := decide (p.1 < q.1) || (decide (p.1 = q.1) && decide (p.2 < q.2))
theorem ltP2_iff {p q : Pt} : ltP2 p q = true ↔ p.1 < q.1 ∨ (p.1 = q.1 ∧ p.2 < q.2) := by
  unfold ltP2
  rw [Bool.or_eq_true, Bool.and_eq_true, decide_eq_true_eq, decide_eq_true_eq, decide_eq_true_eq]
def insU (p : Pt) : List Pt → List Pt
  | [] => [p]
  | h :: t => if ltP2 p h then p :: h :: t else if p = h then h :: t else h :: insU p t
def sortU : List Pt → List Pt
  | [] => []
  | p :: r => insU p (sortU r)
def SrtU (l : List Pt) : Prop := l.Pairwise fun a b => ltP2 a b = true
theorem insU_mem {p x : Pt} : ∀ {l : List Pt}, x ∈ insU p l ↔ x = p ∨ x ∈ l
  | [] => by unfold insU; rw [List.mem_singleton]; simp
  | h :: t => by
    unfold insU
    split
    · rw [List.mem_cons]
    · split
      · rename_i e
        subst e
        rw [List.mem_cons]
        exact ⟨fun z => .inr z, fun z => z.elim (fun e => .inl e) id⟩
      · rw [List.mem_cons, insU_mem, List.mem_cons]
        constructor
        · rintro (z | z | z)
          · exact .inr (.inl z)
          · exact .inl z
          · exact .inr (.inr z)
        · rintro (z | z | z)
          · exact .inr (.inl z)
          · exact .inl z
          · exact .inr (.inr z)
theorem insU_srt {p : Pt} : ∀ {l : List Pt}, SrtU l → SrtU (insU p l)
  | [], _ => List.pairwise_singleton _ _
  | h :: t, hs => by
    obtain ⟨h1, h2⟩ := List.pairwise_cons.mp hs
    unfold insU
    split
    · rename_i e
      refine List.pairwise_cons.mpr ⟨fun x hx => ?_, hs⟩
      rcases List.mem_cons.mp hx with rfl | hx
      · exact e
      · have := h1 x hx
        rw [ltP2_iff] at *
        omega
    · split
      · exact hs
      · rename_i e1 e2
        refine List.pairwise_cons.mpr ⟨fun x hx => ?_, insU_srt h2⟩
        rcases insU_mem.mp hx with rfl | hx
        · rw [ltP2_iff] at *
          have : ¬ (x.1 = h.1 ∧ x.2 = h.2) := fun z => e2 (Prod.ext z.1 z.2)
          omega
        · exact h1 x hx
theorem sortU_mem {x : Pt} : ∀ {l : List Pt}, x ∈ sortU l ↔ x ∈ l
  | [] => Iff.rfl
  | p :: r => by
    unfold sortU
    rw [insU_mem, sortU_mem, List.mem_cons]
theorem sortU_srt : ∀ l : List Pt, SrtU (sortU l)
  | [] => List.Pairwise.nil
  | p :: r => insU_srt (sortU_srt r)
theorem srtU_nodup {l : List Pt} (h : SrtU l) : l.Nodup := h.imp fun {a b} z e => by
  subst e
  rw [ltP2_iff] at z
  omega
theorem ddS_mem {acc : List Pt} {p x : Pt} : x ∈ ddS acc p ↔ x = p ∨ x ∈ acc := by
  unfold ddS
  split
  · rename_i h
    exact ⟨fun z => .inr z, fun z => z.elim (fun e => by rw [e]; exact h) id⟩
  · rw [List.mem_append, List.mem_singleton]
    exact Or.comm
theorem ddS_nodup {acc : List Pt} {p : Pt} (h : acc.Nodup) : (ddS acc p).Nodup := by
  unfold ddS
  split
  · exact h
  · rename_i hn
    refine List.nodup_append.mpr ⟨h, List.nodup_cons.mpr ⟨List.not_mem_nil, List.nodup_nil⟩, fun a ha b hb => ?_⟩
    rw [List.mem_singleton.mp hb]
    intro e
    rw [e] at ha
    exact hn ha
theorem dd_gen (ps : List Pt) : ∀ acc : List Pt, acc.Nodup → (ps.foldl ddS acc).Nodup ∧ ∀ x, x ∈ ps.foldl ddS acc ↔ x ∈ ps ∨ x ∈ acc := by
  induction ps with
  | nil => intro acc h; exact ⟨h, fun x => by simp⟩
  | cons p r ih =>
    intro acc h
    obtain ⟨h1, h2⟩ := ih (ddS acc p) (ddS_nodup h)
    refine ⟨h1, fun x => ?_⟩
    rw [List.foldl_cons, h2, ddS_mem, List.mem_cons]
    constructor
    · rintro (z | z | z)
      · exact .inl (.inr z)
      · exact .inl (.inl z)
      · exact .inr z
    · rintro ((z | z) | z)
      · exact .inr (.inl z)
      · exact .inl z
      · exact .inr (.inr z)
theorem sort_dd (ps : List Pt) : sortP (ddP ps) = sortU ps := by
  obtain ⟨h1, h2⟩ := dd_gen ps [] List.nodup_nil
  refine (sortP_eq ?_ ?_).symm
  · refine (List.perm_ext_iff_of_nodup (srtU_nodup (sortU_srt ps)) h1).mpr fun x => ?_
    rw [sortU_mem]
    show _ ↔ x ∈ ps.foldl ddS []
    rw [h2]
    simp
  · exact (sortU_srt ps).imp fun {a b} h => by
      rw [prLe_iff]
      rw [ltP2_iff] at h
      omega
theorem sort_nodup {ps : List Pt} (h : ps.Nodup) : sortP ps = sortU ps := by
  refine (sortP_eq ?_ ?_).symm
  · exact (List.perm_ext_iff_of_nodup (srtU_nodup (sortU_srt ps)) h).mpr fun x => sortU_mem
  · exact (sortU_srt ps).imp fun {a b} h => by
      rw [prLe_iff]
      rw [ltP2_iff] at h
      omega
/-! ### the least point -/
def IsMin (m : Pt) (ps : List Pt) : Prop := m ∈ ps ∧ ∀ x ∈ ps, x = m ∨ ltP2 m x = true
theorem isMin_uniq {m n : Pt} {ps : List Pt} (h1 : IsMin m ps) (h2 : IsMin n ps) : m = n := by
  rcases h1.2 n h2.1 with e | e
  · exact e.symm
  · rcases h2.2 m h1.1 with e' | e'
    · exact e'
    · rw [ltP2_iff] at e e'
      omega
theorem min_sortU {h : Pt} {t ps : List Pt} (e : sortU ps = h :: t) : IsMin h ps := by
  have hs := sortU_srt ps
  rw [e] at hs
  refine ⟨sortU_mem.mp (by rw [e]; exact List.mem_cons_self), fun x hx => ?_⟩
  have hx' : x ∈ h :: t := by rw [← e]; exact sortU_mem.mpr hx
  rcases List.mem_cons.mp hx' with rfl | hx'
  · exact .inl rfl
  · exact .inr ((List.pairwise_cons.mp hs).1 x hx')
theorem min_sortP {h : Pt} {t ps : List Pt} (e : sortP ps = h :: t) : IsMin h ps := by
  have hp : (sortP ps).Perm ps := List.mergeSort_perm ps prLe
  have hs := sortP_sorted ps
  rw [e] at hs hp
  refine ⟨hp.mem_iff.mp List.mem_cons_self, fun x hx => ?_⟩
  rcases List.mem_cons.mp (hp.mem_iff.mpr hx) with rfl | hx'
  · exact .inl rfl
  · have h1 := (List.pairwise_cons.mp hs).1 x hx'
    rw [prLe_iff] at h1
    by_cases e2 : x = h
    · exact .inl e2
    · refine .inr ?_
      rw [ltP2_iff]
      have : ¬ (h.1 = x.1 ∧ h.2 = x.2) := fun z => e2 (Prod.ext z.1.symm z.2.symm)
      omega
theorem sort_head {ps : List Pt} (h0 : ps ≠ []) : ∃ h t t', sortP ps = h :: t ∧ sortU ps = h :: t' := by
  have hp : (sortP ps).Perm ps := List.mergeSort_perm ps prLe
  cases e : sortP ps with
  | nil => rw [e] at hp; exact absurd hp.symm.eq_nil h0
  | cons h t =>
    cases e2 : sortU ps with
    | nil =>
      exfalso
      obtain ⟨x, hx⟩ := List.exists_mem_of_ne_nil ps h0
      have := sortU_mem.mpr hx
      rw [e2] at this
      cases this
    | cons h' t' =>
      have := isMin_uniq (min_sortP e) (min_sortU e2)
      subst this
      exact ⟨h, t, t', rfl, rfl⟩
theorem lexLt_two (a b c d : Int) : HT.lexLt [a, b] [c, d] = ltP2 (a, b) (c, d) := by
  rw [HT.lexLt_cons, HT.lexLt_cons, HT.lexLt_nil_nil]
  unfold ltP2
  by_cases h : a = c
  · subst h
    rw [if_pos rfl]
    by_cases h2 : b = d
    · subst h2; simp
    · rw [if_neg h2]; simp
  · rw [if_neg h]; simp [h]
theorem ltP2_trans {a b c : Pt} (h1 : ltP2 a b = true) (h2 : ltP2 b c = true) : ltP2 a c = true := by
  rw [ltP2_iff] at *
  omega
theorem argMin (ks : Nat → Pt) : ∀ n, argBest (fun i j => ltP2 (ks i) (ks j)) n ≤ n ∧ ∀ j, j ≤ n → ks j = ks (argBest (fun i j => ltP2 (ks i) (ks j)) n) ∨ ltP2 (ks (argBest (fun i j => ltP2 (ks i) (ks j)) n)) (ks j) = true
  | 0 => ⟨Nat.le_refl _, fun j hj => by have : j = 0 := by omega
                                        subst this; exact .inl rfl⟩
  | n + 1 => by
    obtain ⟨h1, h2⟩ := argMin ks n
    unfold argBest
    by_cases hc : ltP2 (ks (n + 1)) (ks (argBest (fun i j => ltP2 (ks i) (ks j)) n)) = true
    · rw [if_pos hc]
      refine ⟨Nat.le_refl _, fun j hj => ?_⟩
      by_cases e : j = n + 1
      · subst e; exact .inl rfl
      · rcases h2 j (by omega) with z | z
        · rw [z]; exact .inr hc
        · exact .inr (ltP2_trans hc z)
    · rw [if_neg hc]
      refine ⟨by omega, fun j hj => ?_⟩
      by_cases e : j = n + 1
      · subst e
        by_cases z : ks (n + 1) = ks (argBest (fun i j => ltP2 (ks i) (ks j)) n)
        · exact .inl z
        · refine .inr ?_
          rw [ltP2_iff] at hc ⊢
          have : ¬ ((ks (n + 1)).1 = (ks (argBest (fun i j => ltP2 (ks i) (ks j)) n)).1 ∧ (ks (n + 1)).2 = (ks (argBest (fun i j => ltP2 (ks i) (ks j)) n)).2) := fun q => z (Prod.ext q.1 q.2)
          omega
      · exact h2 j (by omega)
theorem minIx_min {ps : List Pt} (h0 : ps ≠ []) : ∃ m, ps[minIx ps]? = some m ∧ IsMin m ps := by
  have hpos := List.length_pos_iff.mpr h0
  have e : minIx ps = argBest (fun i j => ltP2 (ps.getD i (0, 0)) (ps.getD j (0, 0))) (ps.length - 1) := by
    unfold minIx
    congr 1
    funext i j
    exact lexLt_two _ _ _ _
  obtain ⟨h1, h2⟩ := argMin (fun i => ps.getD i (0, 0)) (ps.length - 1)
  rw [← e] at h1 h2
  have hlt : minIx ps < ps.length := by omega
  have eg : ps.getD (minIx ps) (0, 0) = ps[minIx ps] := by rw [List.getD_eq_getElem?_getD, List.getElem?_eq_getElem hlt]; rfl
  refine ⟨ps[minIx ps], List.getElem?_eq_getElem hlt, List.getElem_mem hlt, fun x hx => ?_⟩
  obtain ⟨j, hj, rfl⟩ := List.getElem_of_mem hx
  have ej : ps.getD j (0, 0) = ps[j] := by rw [List.getD_eq_getElem?_getD, List.getElem?_eq_getElem hj]; rfl
  have := h2 j (by omega)
  rw [eg, ej] at this
  exact this
end Mt

namespace Mt
open PySem PySem.Spec PyProof.Rows L2 TD Dn
/-! ### the half of a hull -/
def popP (p : Pt) : List Pt → List Pt
  | [] => []
  | [b] => [b]
  | b :: a :: r => if turnP a b p ≤ 0 then popP p (a :: r) else b :: a :: r
def stkP : List Pt → List Pt → List Pt
  | s, [] => s
  | s, p :: r => stkP (p :: popP p s) r
def halfP (ps : List Pt) : List Pt := (stkP [] ps).reverse
def hullU (row : List Pt) : List Pt := (halfP row).dropLast ++ (halfP row.reverse).dropLast
def hullP (ps : List Pt) : List Pt := hullU (sortU ps)
theorem ix_last (us : List D) (a : D) : ixD (.list (us ++ [a])) (.int (-1)) = .ok a := by
  show optR (atD (us ++ [a]) (-1)) = _
  unfold atD
  rw [if_neg (by decide), if_pos (by rw [List.length_append, List.length_singleton]; omega)]
  have e : ((-1 : Int) + ((us ++ [a]).length : Nat)).toNat = us.length := by rw [List.length_append, List.length_singleton]; omega
  rw [e, List.getElem?_append_right (Nat.le_refl _), Nat.sub_self]
  rfl
theorem ix_last2 (us : List D) (a b : D) : ixD (.list (us ++ [a, b])) (.int (-2)) = .ok a := by
  show optR (atD (us ++ [a, b]) (-2)) = _
  unfold atD
  have hl : (us ++ [a, b]).length = us.length + 2 := by rw [List.length_append]; rfl
  rw [if_neg (by decide), if_pos (by rw [hl]; omega)]
  have e : ((-2 : Int) + ((us ++ [a, b]).length : Nat)).toNat = us.length := by rw [hl]; omega
  rw [e, List.getElem?_append_right (Nat.le_refl _), Nat.sub_self]
  rfl
noncomputable def CP : EnvS → R Bool := (andB (asF (bin2 gtD (callF (fun ds => .ok (.int ds.length)) (ownD 1)) (cD (.int 1)))) (asF (bin2 leD (callU 3 v_turn (consA (ixL (ownD 1) (un1 negD (cD (.int 2)))) (consA (ixL (ownD 1) (un1 negD (cD (.int 1)))) (consA (varD 2) nilA)))) (cD (.int 0)))))
theorem popP_sub {p x : Pt} : ∀ {s : List Pt}, x ∈ popP p s → x ∈ s
  | [], h => h
  | [b], h => h
  | b :: a :: r, h => by
    unfold popP at h
    split at h
    · exact List.mem_cons_of_mem _ (popP_sub h)
    · exact h
theorem popP_len {p : Pt} : ∀ s : List Pt, (popP p s).length ≤ s.length
  | [] => Nat.le_refl _
  | [b] => Nat.le_refl _
  | b :: a :: r => by
    unfold popP
    split
    · exact Nat.le_succ_of_le (popP_len (p := p) (a :: r))
    · exact Nat.le_refl _
theorem pop_loop {A : Option Sl} {p : Pt} (hp : Sm p) : ∀ s : List Pt, (∀ x ∈ s, Sm x) → ∃ n, whO CP (popO 1) n [A, some (.ow (s.reverse.map prD2)), some (.pu (prD2 p))] = .nx [A, some (.ow ((popP p s).reverse.map prD2)), some (.pu (prD2 p))]
  | [], _ => ⟨1, wh_stop (by unfold CP; rfl)⟩
  | [b], _ => ⟨1, wh_stop (by unfold CP; rfl)⟩
  | b :: a :: r, h => by
    have hb := h b List.mem_cons_self
    have ha := h a (List.mem_cons_of_mem _ List.mem_cons_self)
    have e0 : (b :: a :: r).reverse.map prD2 = r.reverse.map prD2 ++ [prD2 a, prD2 b] := by simp
    have e1 : (b :: a :: r).reverse.map prD2 = (r.reverse.map prD2 ++ [prD2 a]) ++ [prD2 b] := by simp
    have hc : CP [A, some (.ow ((b :: a :: r).reverse.map prD2)), some (.pu (prD2 p))] = .ok (decide (turnP a b p ≤ 0)) := by
      unfold CP
      rw [andB_ap, asF_ap, bin2_ap, callF_ap, show ownD 1 [A, some (.ow ((b :: a :: r).reverse.map prD2)), some (.pu (prD2 p))] = .ok ((b :: a :: r).reverse.map prD2) from rfl, R.ok_bind, cD_ap, k2_ok, gtD_int, asB_ok, decide_eq_true (by rw [List.length_map, List.length_reverse, List.length_cons, List.length_cons]; omega), andK_t, asF_ap, bin2_ap, callU_ap, consA_ap, ixL_ap, show ownD 1 [A, some (.ow ((b :: a :: r).reverse.map prD2)), some (.pu (prD2 p))] = .ok ((b :: a :: r).reverse.map prD2) from rfl, show un1 negD (cD (.int 2)) [A, some (.ow ((b :: a :: r).reverse.map prD2)), some (.pu (prD2 p))] = .ok (.int (-2)) from rfl, ixLK_ok, e0, ix_last2, consA_ap, ixL_ap]
      rw [show ownD 1 [A, some (.ow (r.reverse.map prD2 ++ [prD2 a, prD2 b])), some (.pu (prD2 p))] = .ok (r.reverse.map prD2 ++ [prD2 a, prD2 b]) from rfl, show un1 negD (cD (.int 1)) [A, some (.ow (r.reverse.map prD2 ++ [prD2 a, prD2 b])), some (.pu (prD2 p))] = .ok (.int (-1)) from rfl, ixLK_ok, ← e0, e1, ix_last, ← e1, consA_ap, show varD 2 [A, some (.ow ((b :: a :: r).reverse.map prD2)), some (.pu (prD2 p))] = .ok (prD2 p) from rfl, nilA_ap, cnK_ok, cnK_ok, cnK_ok, cuK_3, turn_eq ha hb hp, cD_ap, k2_ok, leD_int, asB_ok]
    by_cases ht : turnP a b p ≤ 0
    · obtain ⟨n, e⟩ := pop_loop hp (a :: r) (fun x hx => h x (List.mem_cons_of_mem _ hx))
      refine ⟨n + 1, ?_⟩
      rw [decide_eq_true ht] at hc
      rw [wh_go hc (ρ2 := [A, some (.ow ((a :: r).reverse.map prD2)), some (.pu (prD2 p))]) (by
        unfold popO
        rw [e1]
        simp)]
      rw [show popP p (b :: a :: r) = popP p (a :: r) by rw [popP, if_pos ht]]
      exact e
    · refine ⟨1, ?_⟩
      rw [decide_eq_false ht] at hc
      rw [wh_stop hc, show popP p (b :: a :: r) = b :: a :: r by rw [popP, if_neg ht]]
theorem app_pr {i : Nat} {ρ : EnvS} {ps : List Pt} {p : Pt} (h : ps.length ≤ 1000) : appK i (some (some (.ow (ps.map prD2)))) (.ok (prD2 p)) ρ = .nx (ρ.set i (some (.ow ((ps ++ [p]).map prD2)))) := by
  rw [appK_ok (by unfold lineOk; rw [List.length_map]; exact decide_eq_true (by omega)), List.map_append]
  rfl
noncomputable def BH : EnvS → Out := (sqO (whX CP (popO 1)) (appO 1 (varD 2)))
theorem half_step {A : Option Sl} {p : Pt} (hp : Sm p) {s : List Pt} (hs : ∀ x ∈ s, Sm x) (hl : s.length ≤ 1000) : BH [A, some (.ow (s.reverse.map prD2)), some (.pu (prD2 p))] = .nx [A, some (.ow ((p :: popP p s).reverse.map prD2)), some (.pu (prD2 p))] := by
  obtain ⟨n, e⟩ := pop_loop (A := A) hp s hs
  unfold BH
  rw [sqO_ap, whX_eq n e (by intro z; cases z), Out.nx_seq, appO_ap]
  have hl2 := popP_len (p := p) s
  show appK 1 (some (some (.ow ((popP p s).reverse.map prD2)))) (.ok (prD2 p)) _ = _
  rw [app_pr (by rw [List.length_reverse]; omega), List.reverse_cons]
  rfl
theorem half_loop {A : Option Sl} : ∀ (ps s : List Pt) (z : Option Sl), (∀ x ∈ ps, Sm x) → (∀ x ∈ s, Sm x) → s.length + ps.length ≤ 1000 → ∃ w, forO (nmG 2) BH (ps.map prD2) [A, some (.ow (s.reverse.map prD2)), z] = .nx [A, some (.ow ((stkP s ps).reverse.map prD2)), w]
  | [], s, z, _, _, _ => ⟨z, rfl⟩
  | p :: ps, s, z, hp, hs, hl => by
    rw [List.length_cons] at hl
    have hp0 := hp p List.mem_cons_self
    have hl2 := popP_len (p := p) s
    obtain ⟨w, e⟩ := half_loop (A := A) ps (p :: popP p s) (some (.pu (prD2 p))) (fun x hx => hp x (List.mem_cons_of_mem _ hx)) (fun x hx => by
      rcases List.mem_cons.mp hx with rfl | hx
      · exact hp0
      · exact hs x (popP_sub hx)) (by rw [List.length_cons]; omega)
    refine ⟨w, ?_⟩
    rw [List.map_cons, forO_cons (ρ1 := [A, some (.ow (s.reverse.map prD2)), some (.pu (prD2 p))]) rfl (half_step hp0 hs (by omega))]
    exact e
theorem half_eq {ps : List Pt} (h : ∀ x ∈ ps, Sm x) (hl : ps.length ≤ 1000) : v__half [.list (ps.map prD2)] = .ok (.list ((halfP ps).map prD2)) := by
  obtain ⟨w, e⟩ := half_loop (A := some (.pu (.list (ps.map prD2)))) ps [] none h (fun x hx => absurd hx List.not_mem_nil) (by rw [List.length_nil]; omega)
  show fnK (b__half [some (.pu (.list (ps.map prD2))), none, none]) = _
  unfold b__half
  refine (congrArg fnK (sq_nx (ρ1 := [some (.pu (.list (ps.map prD2))), some (.ow []), none]) rfl)).trans ?_
  refine (congrArg fnK (sq_nx (ρ1 := [some (.pu (.list (ps.map prD2))), some (.ow ((stkP [] ps).reverse.map prD2)), w]) ?_)).trans ?_
  · rw [loO_ap, show seqF (varD 0) [some (.pu (.list (ps.map prD2))), some (.ow []), none] = .ok (ps.map prD2) from rfl, loK_ok]
    exact e
  · rfl
theorem stkP_len : ∀ (ps s : List Pt), (stkP s ps).length ≤ s.length + ps.length
  | [], s => Nat.le_refl _
  | p :: ps, s => by
    have h1 := stkP_len ps (p :: popP p s)
    have h2 := popP_len (p := p) s
    rw [List.length_cons] at *
    unfold stkP
    omega
theorem halfP_len (ps : List Pt) : (halfP ps).length ≤ ps.length := by
  have := stkP_len ps []
  unfold halfP
  rw [List.length_reverse]
  simpa using this
theorem cut_m1 {α : Type} (xs : List α) (h : xs ≠ []) : TD.cutD xs none (some (-1)) = xs.take (xs.length - 1) := by
  have := List.length_pos_iff.mpr h
  unfold TD.cutD
  have e : HT.sIx xs.length xs.length (some (-1)) = xs.length - 1 := by
    show (if (-1 : Int) < 0 then ((-1 : Int) + (xs.length : Int)).toNat else min (-1 : Int).toNat xs.length) = _
    rw [if_pos (by decide)]
    omega
  rw [HT.sIx_none, e]
  rfl
theorem addT {a b : List D} (h : a.length + b.length ≤ 1000) : addD (.tuple a) (.tuple b) = .ok (.tuple (a ++ b)) := if_pos (by unfold lineOk; exact decide_eq_true (by omega))
theorem addL {a b : List D} (h : a.length + b.length ≤ 1000) : addD (.list a) (.list b) = .ok (.list (a ++ b)) := if_pos (by unfold lineOk; exact decide_eq_true (by omega))
theorem stkP_ne : ∀ (ps s : List Pt), s ≠ [] → stkP s ps ≠ []
  | [], s, h => h
  | p :: ps, s, _ => by
    unfold stkP
    exact stkP_ne ps _ (List.cons_ne_nil _ _)
theorem halfP_ne {ps : List Pt} (h : ps ≠ []) : halfP ps ≠ [] := by
  cases ps with
  | nil => exact absurd rfl h
  | cons p r =>
    unfold halfP stkP
    intro z
    have := List.reverse_eq_nil_iff.mp z
    exact stkP_ne r _ (List.cons_ne_nil _ _) this
theorem half_cut {ps : List Pt} (h : ∀ x ∈ ps, Sm x) (hl : ps.length ≤ 1000) (h0 : ps ≠ []) {f : EnvS → R D} {ρ : EnvS} (hf : f ρ = .ok (.list (ps.map prD2))) : slcG (callU 1 v__half (consA f nilA)) noP (someP (un1 negD (cD (.int 1)))) ρ = .ok (.list ((halfP ps).dropLast.map prD2)) := by
  rw [slcG_ap, callU_ap, consA_ap, hf, nilA_ap, cnK_ok, cuK_1, half_eq h hl]
  show slK (.ok (.list ((halfP ps).map prD2))) (.ok none) (.ok (some (-1))) = _
  rw [slK_l, cut_m1 _ (fun z => halfP_ne h0 (List.map_eq_nil_iff.mp z)), ← List.map_take, List.length_map, List.dropLast_eq_take]
theorem sortU_len : ∀ ps : List Pt, (sortU ps).length ≤ ps.length
  | [] => Nat.le_refl _
  | p :: r => by
    have h1 := sortU_len r
    have h2 : ∀ l : List Pt, (insU p l).length ≤ l.length + 1 := by
      intro l
      induction l with
      | nil => exact Nat.le_refl _
      | cons h t ih =>
        unfold insU
        split
        · exact Nat.le_refl _
        · split
          · exact Nat.le_succ _
          · rw [List.length_cons, List.length_cons]; omega
    have := h2 (sortU r)
    rw [List.length_cons]
    unfold sortU
    omega
theorem around_eq {ps : List Pt} (h : ∀ x ∈ ps, Sm x) (hl : ps.length ≤ 400) (h0 : ps ≠ []) : v_around [.list (ps.map prD2)] = .ok (.tuple ((hullP ps).map prD2)) := by
  have hu : ∀ x ∈ sortU ps, Sm x := fun x hx => h x (sortU_mem.mp hx)
  have hul := sortU_len ps
  have hu0 : sortU ps ≠ [] := by
    intro z
    obtain ⟨x, hx⟩ := List.exists_mem_of_ne_nil ps h0
    have := sortU_mem.mpr hx
    rw [z] at this
    cases this
  have e1 : lstF (sdcL (lcF (seqF (varD 0)) (nmG 2) yesB (varD 2) [2])) [some (.pu (.list (ps.map prD2))), none, none] = .ok (.list ((sortU ps).map prD2)) := by
    have e2 : lcF (seqF (varD 0)) (nmG 2) yesB (varD 2) [2] [some (.pu (.list (ps.map prD2))), none, none] = .ok (ps.map prD2) := by
      rw [lcF_ap, seqF_ap, varD_zero, sqK_l, lcK_ok (by unfold lineOk; rw [List.length_map]; exact decide_eq_true (by omega))]
      exact comp_map (h := prD2) ps fun x _ => rfl
    rw [lstF_ap]
    show lsK ((lcF (seqF (varD 0)) (nmG 2) yesB (varD 2) [2] [some (.pu (.list (ps.map prD2))), none, none]).bind sdcR) = _
    rw [e2, R.ok_bind]
    unfold sdcR
    rw [pairsOf_map]
    show lsK (.ok ((sortP (ddP ps)).map prD2)) = _
    rw [sort_dd, lsK_ok]
  show fnK (b_around [some (.pu (.list (ps.map prD2))), none, none]) = _
  unfold b_around
  refine (congrArg fnK (sq_nx (st_nx e1))).trans ?_
  simp only [List.set]
  have hr : lstF (revL (asLF (varD 1))) [some (.pu (.list (ps.map prD2))), some (.pu (.list ((sortU ps).map prD2))), none] = .ok (.list ((sortU ps).reverse.map prD2)) := by
    rw [List.map_reverse]; rfl
  have l1 := halfP_len (sortU ps)
  have l2 := halfP_len (sortU ps).reverse
  rw [List.length_reverse] at l2
  rw [rtO_ap, fnK_rtK, callF_ap, consA_ap, bin2_ap, half_cut (ps := sortU ps) hu (by omega) hu0 rfl, half_cut (ps := (sortU ps).reverse) (fun x hx => hu x (List.mem_reverse.mp hx)) (by rw [List.length_reverse]; omega) (fun z => hu0 (List.reverse_eq_nil_iff.mp z)) hr, k2_ok, addL (by rw [List.length_map, List.length_map, List.length_dropLast, List.length_dropLast]; omega), nilA_ap, cnK_ok, R.ok_bind, tupK_list, ← List.map_append]
  rfl
def waysP (a b : List Pt) : List Pt := a.flatMap fun p => b.map fun q => (p.1 - q.1, p.2 - q.2)
noncomputable def FW : EnvS → R D := (tupD (consA (bin2 subD (bin2 ixD (varD 2) (cD (.int 0))) (bin2 ixD (varD 3) (cD (.int 0)))) (consA (bin2 subD (bin2 ixD (varD 2) (cD (.int 1))) (bin2 ixD (varD 3) (cD (.int 1)))) nilA)))
theorem com2_cons {h : D → EnvS → R EnvS} {f1 : EnvS → R (List D)} {h1 : D → EnvS → R EnvS} {fe : EnvS → R D} {vs1 : List Nat} {d : D} {ds es ys zs : List D} {ρ ρ1 : EnvS} (e1 : h d ρ = .ok ρ1) (e2 : f1 ρ1 = .ok es) (e3 : compO h1 yesB fe es (wipeS ρ1 vs1) = .ok ys) (e4 : com2 h f1 h1 fe vs1 ds ρ = .ok zs) :
    com2 h f1 h1 fe vs1 (d :: ds) ρ = .ok (ys ++ zs) := by
  unfold com2
  rw [e1]
  dsimp only
  rw [e2]
  dsimp only
  rw [e3]
  dsimp only
  rw [e4]
theorem ways_com {A : Option Sl} {b : List Pt} {z3 : Option Sl} : ∀ (a : List Pt) (z2 : Option Sl), com2 (nmG 2) (seqF (varD 1)) (nmG 3) FW [3] (a.map prD2) [A, some (.pu (.tuple (b.map prD2))), z2, z3] = .ok ((waysP a b).map prD2)
  | [], _ => rfl
  | p :: a, z2 => by
    have e1 : compO (nmG 3) yesB FW (b.map prD2) [A, some (.pu (.tuple (b.map prD2))), some (.pu (prD2 p)), none] = .ok (b.map fun q => prD2 (p.1 - q.1, p.2 - q.2)) := comp_map (h := fun q => prD2 (p.1 - q.1, p.2 - q.2)) b fun q _ => rfl
    have e2 := ways_com (A := A) (b := b) (z3 := z3) a z2
    rw [List.map_cons, com2_cons (ρ1 := [A, some (.pu (.tuple (b.map prD2))), some (.pu (prD2 p)), z3]) (es := b.map prD2) rfl rfl e1 e2]
    show R.ok _ = R.ok _
    congr 1
    unfold waysP
    rw [List.flatMap_cons, List.map_append, List.map_map]
    rfl
theorem waysP_len (a b : List Pt) : (waysP a b).length = a.length * b.length := by
  induction a with
  | nil => simp [waysP]
  | cons p a ih =>
    unfold waysP at *
    rw [List.flatMap_cons, List.length_append, List.length_map, ih, List.length_cons, Nat.succ_mul]
    omega
theorem apart_eq {a b : List Pt} (ha : ∀ x ∈ a, x.1.natAbs ≤ 100 ∧ x.2.natAbs ≤ 100) (hb : ∀ x ∈ b, x.1.natAbs ≤ 100 ∧ x.2.natAbs ≤ 100) (la : a.length ≤ 8) (lb : b.length ≤ 8) (h0 : waysP a b ≠ []) : v_apart_by [.tuple (a.map prD2), .tuple (b.map prD2)] = .ok (.tuple ((hullP (waysP a b)).map prD2)) := by
  have hl : (waysP a b).length ≤ 64 := by rw [waysP_len]; exact Nat.mul_le_mul la lb
  have hw : ∀ x ∈ waysP a b, Sm x := fun x hx => by
    obtain ⟨p, hp, hx⟩ := List.mem_flatMap.mp hx
    obtain ⟨q, hq, rfl⟩ := List.mem_map.mp hx
    have h1 := ha p hp
    have h2 := hb q hq
    unfold Sm
    dsimp only
    omega
  have e : lc2F (seqF (varD 0)) (nmG 2) (seqF (varD 1)) (nmG 3) FW [2, 3] [3] [some (.pu (.tuple (a.map prD2))), some (.pu (.tuple (b.map prD2))), none, none] = .ok ((waysP a b).map prD2) := by
    unfold lc2F
    rw [show seqF (varD 0) [some (.pu (.tuple (a.map prD2))), some (.pu (.tuple (b.map prD2))), none, none] = .ok (a.map prD2) from rfl, R.ok_bind]
    show (com2 (nmG 2) (seqF (varD 1)) (nmG 3) FW [3] (a.map prD2) [some (.pu (.tuple (a.map prD2))), some (.pu (.tuple (b.map prD2))), none, none]).bind _ = _
    rw [ways_com, R.ok_bind, if_pos (by unfold lineOk; rw [List.length_map]; exact decide_eq_true (by omega))]
  show fnK (b_apart_by [some (.pu (.tuple (a.map prD2))), some (.pu (.tuple (b.map prD2))), none, none]) = _
  unfold b_apart_by
  unfold FW at e
  rw [rtO_ap, fnK_rtK, callU_ap, consA_ap, lstF_ap, e, lsK_ok, nilA_ap, cnK_ok, cuK_1, around_eq hw (by omega) h0]
end Mt

namespace Mt
open PySem PySem.Spec PyProof.Rows L2 TD Dn
/-! ### the law's way round -/
def distP (p h : Pt) : Int := ((p.1 - h.1).natAbs : Int) + ((p.2 - h.2).natAbs : Int)
def stepB (here : Pt) : Option Pt → Pt → Option Pt
  | none, p => if p = here then none else some p
  | some b, p => if p = here then some b else
      let s := lturnP here p b
      if 0 < s then some p else if s = 0 && decide (distP b here < distP p here) then some p else some b
theorem stepB_none (h p : Pt) : stepB h none p = if p = h then none else some p := rfl
theorem stepB_some (h b p : Pt) : stepB h (some b) p = if p = h then some b else if 0 < lturnP h p b then some p else if (decide (lturnP h p b = 0) && decide (distP b h < distP p h)) = true then some p else some b := rfl
def bestP (here : Pt) (ps : List Pt) : Option Pt := ps.foldl (stepB here) none
def wrapP (ps : List Pt) (h0 : Pt) : Nat → Pt → List Pt → Option (List Pt)
  | 0, _, _ => none
  | n + 1, here, acc => match bestP here ps with
    | none => none
    | some b => if b = h0 then some (acc.reverse) else wrapP ps h0 n b (b :: acc)
theorem sortK_pairs (ps : List (Int × Int)) : sortK (ps.map prD2) = .ok ((sortP ps).map prD2) := by
  unfold sortK
  cases ps with
  | nil =>
    show R.ok ((sortI []).map PyData.int) = _
    rw [show sortI [] = [] from List.mergeSort_nil, show sortP [] = [] from List.mergeSort_nil]
    rfl
  | cons p ps =>
    have e : intsOf ((p :: ps).map prD2) = none := rfl
    rw [e, pairsOf_map]
def optP : Option Pt → D
  | none => .none
  | some p => prD2 p
noncomputable def ESide : EnvS → R D := (ifD (asF (bin2 isND (varD 3) (cD .none))) (cD (.int 1)) (callU 3 v__law_turn (consA (varD 2) (consA (varD 4) (consA (varD 3) nilA)))))
noncomputable def EFar : EnvS → R D := (andV (bin2 notND (varD 3) (cD .none)) (andV (bin2 eqD (varD 5) (cD (.int 0))) (bin2 gtD (bin2 addD (callF absK (consA (bin2 subD (bin2 ixD (varD 4) (cD (.int 0))) (bin2 ixD (varD 2) (cD (.int 0)))) nilA)) (callF absK (consA (bin2 subD (bin2 ixD (varD 4) (cD (.int 1))) (bin2 ixD (varD 2) (cD (.int 1)))) nilA))) (bin2 addD (callF absK (consA (bin2 subD (bin2 ixD (varD 3) (cD (.int 0))) (bin2 ixD (varD 2) (cD (.int 0)))) nilA)) (callF absK (consA (bin2 subD (bin2 ixD (varD 3) (cD (.int 1))) (bin2 ixD (varD 2) (cD (.int 1)))) nilA))))))
noncomputable def EBest : EnvS → R D := (ifD (orB (asF (bin2 isND (varD 3) (cD .none))) (orB (asF (bin2 gtD (varD 5) (cD (.int 0)))) (asF (varD 6)))) (varD 4) (varD 3))
noncomputable def BP : EnvS → Out := (ifO (asF (bin2 neD (varD 4) (varD 2))) (sqO (stO 5 ESide) (sqO (stO 6 EFar) (stO 3 EBest))) nxO)
noncomputable def BR : EnvS → Out := (sqO (stO 2 (ixL (ownD 1) (un1 negD (cD (.int 1)))))
  (sqO (stO 3 (cD .none))
  (sqO (loO (seqF (varD 0)) (nmG 4) BP)
  (sqO (ifO (asF (bin2 eqD (varD 3) (ixL (ownD 1) (cD (.int 0))))) (rtO (callF (fun ds => .ok (.tuple ds)) (ownD 1))) nxO)
  (appO 1 (varD 3))))))
theorem round_eq : b__law_round = sqO (owO 1 (newD (consA (ixL (callN sortK (asLF (varD 0))) (cD (.int 0))) nilA))) (whX (asF (cD (.bool true))) BR) := rfl
theorem abs_nat (x : Int) : (if x < 0 then -x else x) = (x.natAbs : Int) := by
  split <;> omega
section
variable {A O : Option Sl} {h p : Pt} (hh : Sm h) (hp : Sm p)
include hh hp
theorem side_none {z5 z6 : Option Sl} : ESide [A, O, some (.pu (prD2 h)), some (.pu .none), some (.pu (prD2 p)), z5, z6] = .ok (.int 1) := rfl
theorem bp_step {b : Option Pt} (hb : ∀ x, b = some x → Sm x) {z5 z6 : Option Sl} : ∃ w5 w6, BP [A, O, some (.pu (prD2 h)), some (.pu (optP b)), some (.pu (prD2 p)), z5, z6] = .nx [A, O, some (.pu (prD2 h)), some (.pu (optP (stepB h b p))), some (.pu (prD2 p)), w5, w6] := by
  have h0 : asF (bin2 neD (varD 4) (varD 2)) [A, O, some (.pu (prD2 h)), some (.pu (optP b)), some (.pu (prD2 p)), z5, z6] = .ok (!decide (p = h)) := by
    rw [asF_ap, bin2_ap, show varD 4 [A, O, some (.pu (prD2 h)), some (.pu (optP b)), some (.pu (prD2 p)), z5, z6] = .ok (prD2 p) from rfl, show varD 2 [A, O, some (.pu (prD2 h)), some (.pu (optP b)), some (.pu (prD2 p)), z5, z6] = .ok (prD2 h) from rfl, k2_ok, neD_pr, asB_ok]
  unfold BP
  by_cases e : p = h
  · rw [decide_eq_true e] at h0
    refine ⟨z5, z6, ?_⟩
    rw [ifO_ap, h0]
    have : stepB h b p = b := by
      cases b with
      | none => rw [stepB_none, if_pos e]
      | some x => rw [stepB_some, if_pos e]
    rw [this]
    rfl
  · rw [decide_eq_false e] at h0
    rw [ifO_ap, h0]
    cases b with
    | none =>
      refine ⟨some (.pu (.int 1)), some (.pu (.bool false)), ?_⟩
      have : stepB h none p = some p := by rw [stepB_none, if_neg e]
      rw [this]
      rfl
    | some x =>
      have hx := hb x rfl
      have e1 : ESide [A, O, some (.pu (prD2 h)), some (.pu (optP (some x))), some (.pu (prD2 p)), z5, z6] = .ok (.int (lturnP h p x)) := by
        unfold ESide
        rw [ifD_ap, show asF (bin2 isND (varD 3) (cD .none)) [A, O, some (.pu (prD2 h)), some (.pu (optP (some x))), some (.pu (prD2 p)), z5, z6] = .ok false from rfl, ifDK_f]
        exact lturn_eq hh hp hx
      have e2 : EFar [A, O, some (.pu (prD2 h)), some (.pu (optP (some x))), some (.pu (prD2 p)), some (.pu (.int (lturnP h p x))), z6] = .ok (.bool (decide (lturnP h p x = 0) && decide (distP x h < distP p h))) := by
        unfold EFar
        rw [andV_ap, show bin2 notND (varD 3) (cD .none) [A, O, some (.pu (prD2 h)), some (.pu (optP (some x))), some (.pu (prD2 p)), some (.pu (.int (lturnP h p x))), z6] = .ok (.bool true) from rfl, asB_ok, andVK_t, andV_ap, bin2_ap, show varD 5 [A, O, some (.pu (prD2 h)), some (.pu (optP (some x))), some (.pu (prD2 p)), some (.pu (.int (lturnP h p x))), z6] = .ok (.int (lturnP h p x)) from rfl, cD_ap, k2_ok, eqD_int, asB_ok]
        cases decide (lturnP h p x = 0) with
        | false => rfl
        | true =>
          rw [andVK_t, Bool.true_and]
          simp only [bin2_ap, callF_ap, consA_ap, nilA_ap, varD_succ, varD_zero, optP, cD_ap, k2_ok, ixP0, ixP1, subD_int, cnK_ok, R.ok_bind, absK_int, abs_nat, addD_int, gtD_int]
          rfl
      refine ⟨some (.pu (.int (lturnP h p x))), some (.pu (.bool (decide (lturnP h p x = 0) && decide (distP x h < distP p h)))), ?_⟩
      show sqO (stO 5 ESide) (sqO (stO 6 EFar) (stO 3 EBest)) _ = _
      rw [sq_nx (st_nx e1)]
      simp only [List.set]
      rw [sq_nx (st_nx e2)]
      simp only [List.set]
      have e3 : EBest [A, O, some (.pu (prD2 h)), some (.pu (optP (some x))), some (.pu (prD2 p)), some (.pu (.int (lturnP h p x))), some (.pu (.bool (decide (lturnP h p x = 0) && decide (distP x h < distP p h))))] = .ok (optP (stepB h (some x) p)) := by
        unfold EBest
        rw [ifD_ap, orB_ap, show asF (bin2 isND (varD 3) (cD .none)) [A, O, some (.pu (prD2 h)), some (.pu (optP (some x))), some (.pu (prD2 p)), some (.pu (.int (lturnP h p x))), some (.pu (.bool (decide (lturnP h p x = 0) && decide (distP x h < distP p h))))] = .ok false from rfl, orK_f, orB_ap, asF_ap, bin2_ap, show varD 5 [A, O, some (.pu (prD2 h)), some (.pu (optP (some x))), some (.pu (prD2 p)), some (.pu (.int (lturnP h p x))), some (.pu (.bool (decide (lturnP h p x = 0) && decide (distP x h < distP p h))))] = .ok (.int (lturnP h p x)) from rfl, cD_ap, k2_ok, gtD_int, asB_ok]
        rw [stepB_some, if_neg e]
        by_cases h1 : 0 < lturnP h p x
        · rw [decide_eq_true h1, orK_t, ifDK_t, if_pos h1]
          rfl
        · rw [decide_eq_false h1, orK_f, asF_ap, show varD 6 [A, O, some (.pu (prD2 h)), some (.pu (optP (some x))), some (.pu (prD2 p)), some (.pu (.int (lturnP h p x))), some (.pu (.bool (decide (lturnP h p x = 0) && decide (distP x h < distP p h))))] = .ok (.bool (decide (lturnP h p x = 0) && decide (distP x h < distP p h))) from rfl, asB_ok, if_neg h1]
          cases (decide (lturnP h p x = 0) && decide (distP x h < distP p h)) with
          | true => rw [ifDK_t, if_pos rfl]; rfl
          | false => rw [ifDK_f, if_neg Bool.false_ne_true]; rfl
      rw [st_nx e3]
      rfl
end
theorem stepB_sub {h p x : Pt} {b : Option Pt} (e : stepB h b p = some x) : b = some x ∨ p = x := by
  cases b with
  | none =>
    rw [stepB_none] at e
    split at e
    · cases e
    · exact .inr (Option.some.inj e)
  | some y =>
    rw [stepB_some] at e
    split at e
    · exact .inl e
    · split at e
      · exact .inr (Option.some.inj e)
      · split at e
        · exact .inr (Option.some.inj e)
        · exact .inl e
theorem best_loop {A O : Option Sl} {h : Pt} (hh : Sm h) : ∀ (ps : List Pt) (b : Option Pt) (z4 z5 z6 : Option Sl), (∀ x ∈ ps, Sm x) → (∀ x, b = some x → Sm x) →
    ∃ w4 w5 w6, forO (nmG 4) BP (ps.map prD2) [A, O, some (.pu (prD2 h)), some (.pu (optP b)), z4, z5, z6] = .nx [A, O, some (.pu (prD2 h)), some (.pu (optP (ps.foldl (stepB h) b))), w4, w5, w6]
  | [], b, z4, z5, z6, _, _ => ⟨z4, z5, z6, rfl⟩
  | p :: ps, b, z4, z5, z6, hp, hb => by
    have hp0 := hp p List.mem_cons_self
    obtain ⟨v5, v6, e1⟩ := bp_step (A := A) (O := O) hh hp0 hb (z5 := z5) (z6 := z6)
    obtain ⟨w4, w5, w6, e2⟩ := best_loop (A := A) (O := O) hh ps (stepB h b p) (some (.pu (prD2 p))) v5 v6 (fun x hx => hp x (List.mem_cons_of_mem _ hx)) (fun x hx => by
      rcases stepB_sub hx with e | e
      · exact hb x e
      · rw [← e]; exact hp0)
    refine ⟨w4, w5, w6, ?_⟩
    rw [List.map_cons, forO_cons (ρ1 := [A, O, some (.pu (prD2 h)), some (.pu (optP b)), some (.pu (prD2 p)), z5, z6]) rfl e1]
    exact e2
theorem foldB_sub {h x : Pt} : ∀ (ps : List Pt) (b : Option Pt), ps.foldl (stepB h) b = some x → b = some x ∨ x ∈ ps
  | [], b, e => .inl e
  | p :: ps, b, e => by
    rcases foldB_sub ps (stepB h b p) e with e | e
    · rcases stepB_sub e with e | e
      · exact .inl e
      · exact .inr (by rw [← e]; exact List.mem_cons_self)
    · exact .inr (List.mem_cons_of_mem _ e)
theorem wrap_loop {ps : List Pt} (hps : ∀ x ∈ ps, Sm x) {h0 : Pt} : ∀ (n : Nat) (here : Pt) (acc res : List Pt) (z2 z3 z4 z5 z6 : Option Sl), Sm here → (∃ r, here :: acc = r ++ [h0]) → acc.length + n ≤ 500 → wrapP ps h0 n here (here :: acc) = some res →
    ∃ m, whO (asF (cD (.bool true))) BR m [some (.pu (.list (ps.map prD2))), some (.ow ((here :: acc).reverse.map prD2)), z2, z3, z4, z5, z6] = .rt (.tuple (res.map prD2))
  | 0, _, _, _, _, _, _, _, _, _, _, _, e => by cases e
  | n + 1, here, acc, res, z2, z3, z4, z5, z6, hh, ⟨r, hr⟩, hl, e => by
    unfold wrapP at e
    cases eb : bestP here ps with
    | none => rw [eb] at e; cases e
    | some b =>
      rw [eb] at e
      dsimp only at e
      have hb : Sm b := by
        rcases foldB_sub ps none eb with z | z
        · cases z
        · exact hps b z
      obtain ⟨w4, w5, w6, e2⟩ := best_loop (A := some (.pu (.list (ps.map prD2)))) (O := some (.ow ((here :: acc).reverse.map prD2))) hh ps none z4 z5 z6 hps (fun x hx => by cases hx)
      have e2 : forO (nmG 4) BP (ps.map prD2) [some (.pu (.list (ps.map prD2))), some (.ow ((here :: acc).reverse.map prD2)), some (.pu (prD2 here)), some (.pu (.none)), z4, z5, z6] = .nx [some (.pu (.list (ps.map prD2))), some (.ow ((here :: acc).reverse.map prD2)), some (.pu (prD2 here)), some (.pu (prD2 b)), w4, w5, w6] := by
        have e3 := e2
        rw [show ps.foldl (stepB here) none = some b from eb] at e3
        exact e3
      have el : ixL (ownD 1) (un1 negD (cD (.int 1))) [some (.pu (.list (ps.map prD2))), some (.ow ((here :: acc).reverse.map prD2)), z2, z3, z4, z5, z6] = .ok (prD2 here) := by
        show ixD (.list ((here :: acc).reverse.map prD2)) (.int (-1)) = _
        rw [List.reverse_cons, List.map_append]
        exact ix_last _ _
      have ef : asF (bin2 eqD (varD 3) (ixL (ownD 1) (cD (.int 0)))) [some (.pu (.list (ps.map prD2))), some (.ow ((here :: acc).reverse.map prD2)), some (.pu (prD2 here)), some (.pu (prD2 b)), w4, w5, w6] = .ok (decide (b = h0)) := by
        rw [asF_ap, bin2_ap, show ixL (ownD 1) (cD (.int 0)) [some (.pu (.list (ps.map prD2))), some (.ow ((here :: acc).reverse.map prD2)), some (.pu (prD2 here)), some (.pu (prD2 b)), w4, w5, w6] = .ok (prD2 h0) by
          show ixD (.list ((here :: acc).reverse.map prD2)) (.int 0) = _
          rw [hr, List.reverse_append]
          rfl]
        rw [show varD 3 [some (.pu (.list (ps.map prD2))), some (.ow ((here :: acc).reverse.map prD2)), some (.pu (prD2 here)), some (.pu (prD2 b)), w4, w5, w6] = .ok (prD2 b) from rfl, k2_ok, eqD_pr, asB_ok]
      have start : BR [some (.pu (.list (ps.map prD2))), some (.ow ((here :: acc).reverse.map prD2)), z2, z3, z4, z5, z6] = sqO (ifO (asF (bin2 eqD (varD 3) (ixL (ownD 1) (cD (.int 0))))) (rtO (callF (fun ds => .ok (.tuple ds)) (ownD 1))) nxO) (appO 1 (varD 3)) [some (.pu (.list (ps.map prD2))), some (.ow ((here :: acc).reverse.map prD2)), some (.pu (prD2 here)), some (.pu (prD2 b)), w4, w5, w6] := by
        unfold BR
        rw [sq_nx (st_nx el)]
        simp only [List.set]
        rw [sq_nx (st_nx (d := .none) rfl)]
        simp only [List.set]
        rw [sq_nx (show loO (seqF (varD 0)) (nmG 4) BP [some (.pu (.list (ps.map prD2))), some (.ow ((here :: acc).reverse.map prD2)), some (.pu (prD2 here)), some (.pu .none), z4, z5, z6] = _ from (by rw [loO_ap, show seqF (varD 0) [some (.pu (.list (ps.map prD2))), some (.ow ((here :: acc).reverse.map prD2)), some (.pu (prD2 here)), some (.pu .none), z4, z5, z6] = .ok (ps.map prD2) from rfl, loK_ok]; exact e2))]
      by_cases hb0 : b = h0
      · rw [if_pos hb0] at e
        cases e
        rw [decide_eq_true hb0] at ef
        refine ⟨1, wh_rt rfl ?_⟩
        rw [start, sqO_ap, ifO_ap, ef]
        rfl
      · rw [if_neg hb0] at e
        rw [decide_eq_false hb0] at ef
        obtain ⟨m, e4⟩ := wrap_loop hps n b (here :: acc) res (some (.pu (prD2 here))) (some (.pu (prD2 b))) w4 w5 w6 hb ⟨b :: r, by rw [hr]; rfl⟩ (by rw [List.length_cons]; omega) e
        refine ⟨m + 1, ?_⟩
        rw [wh_go (ρ2 := [some (.pu (.list (ps.map prD2))), some (.ow ((b :: here :: acc).reverse.map prD2)), some (.pu (prD2 here)), some (.pu (prD2 b)), w4, w5, w6]) rfl (by
          rw [start, sq_nx (if_skip ef), appO_ap]
          show appK 1 (some (some (.ow ((here :: acc).reverse.map prD2)))) (.ok (prD2 b)) _ = _
          rw [app_pr (by rw [List.length_reverse, List.length_cons]; omega), ← List.reverse_cons]
          rfl)]
        exact e4
theorem round_ok {ps : List Pt} (hps : ∀ x ∈ ps, Sm x) {h0 : Pt} {t res : List Pt} (hs : sortU ps = h0 :: t) (e : wrapP ps h0 20 h0 [h0] = some res) : v__law_round [.list (ps.map prD2)] = .ok (.tuple (res.map prD2)) := by
  have hne : ps ≠ [] := fun z => by rw [z] at hs; cases hs
  obtain ⟨h, t1, t2, e1, e2⟩ := sort_head hne
  rw [hs] at e2
  cases e2
  obtain ⟨m, em⟩ := wrap_loop hps 20 h0 [] res none none none none none (hps h0 (min_sortP e1).1) ⟨[], rfl⟩ (by rw [List.length_nil]; omega) e
  show fnK (b__law_round [some (.pu (.list (ps.map prD2))), none, none, none, none, none, none]) = _
  rw [round_eq]
  have eo : owO 1 (newD (consA (ixL (callN sortK (asLF (varD 0))) (cD (.int 0))) nilA)) [some (.pu (.list (ps.map prD2))), none, none, none, none, none, none] = .nx [some (.pu (.list (ps.map prD2))), some (.ow [prD2 h0]), none, none, none, none, none] := by
    have : ixL (callN sortK (asLF (varD 0))) (cD (.int 0)) [some (.pu (.list (ps.map prD2))), none, none, none, none, none, none] = .ok (prD2 h0) := by
      rw [ixL_ap]
      show ixLK (sortK (ps.map prD2)) (.ok (.int 0)) = _
      rw [sortK_pairs, e1]
      rfl
    simp only [owO, newD]
    rw [consA_ap, this]
    rfl
  rw [sq_nx eo]
  exact (congrArg fnK (whX_eq m em (by intro z; cases z))).trans rfl
end Mt

namespace Mt
open PySem PySem.Spec PyProof.Rows L2 TD Dn
/-! ### sides -/
abbrev Sd := Pt × Int
def cAt (ps : List Pt) (k : Nat) : Pt := ps.getD k (0, 0)
def sideP (a b : Pt) : Sd :=
  let g : Int := (Int.gcd (b.1 - a.1) (b.2 - a.2) : Nat)
  let n : Pt := ((b.2 - a.2) / g, 0 - (b.1 - a.1) / g)
  (n, n.1 * a.1 + n.2 * a.2)
def nxt (ps : List Pt) (k : Nat) : Nat := (k + 1) % ps.length
def sidesP (ps : List Pt) : List Sd := (List.range ps.length).map fun k => sideP (cAt ps k) (cAt ps (nxt ps k))
def sdD (s : Sd) : D := .tuple [prD2 s.1, .int s.2]
/-- neighbours are two, and near -/
def AdjOk (ps : List Pt) : Prop := ∀ k, k < ps.length → cAt ps k ≠ cAt ps (nxt ps k)
def Nr (p : Pt) : Prop := p.1.natAbs ≤ 60 ∧ p.2.natAbs ≤ 60
theorem Nr.sm {p : Pt} (h : Nr p) : Sm p := ⟨by have := h.1; omega, by have := h.2; omega⟩
theorem cAt_get {ps : List Pt} {k : Nat} (h : k < ps.length) : ps[k]? = some (cAt ps k) := by
  unfold cAt
  rw [List.getD_eq_getElem?_getD, List.getElem?_eq_getElem h]; rfl
theorem cAt_mem {ps : List Pt} {k : Nat} (h : k < ps.length) : cAt ps k ∈ ps := List.mem_of_getElem? (cAt_get h)
theorem ixT {ps : List Pt} {k : Nat} (h : k < ps.length) : ixD (.tuple (ps.map prD2)) (.int (k : Nat)) = .ok (prD2 (cAt ps k)) := by
  show optR (atD (ps.map prD2) (k : Nat)) = _
  unfold atD
  rw [if_pos (Int.natCast_nonneg k), Int.toNat_natCast, List.getElem?_map, cAt_get h]
  rfl
theorem nxt_lt {ps : List Pt} {k : Nat} (h : k < ps.length) : nxt ps k < ps.length := Nat.mod_lt _ (by omega)
theorem mod_nxt {ps : List Pt} {k : Nat} (h : k < ps.length) (hl : ps.length ≤ 1000) : modD (.int ((k : Nat) + 1)) (.int (ps.length : Nat)) = .ok (.int (nxt ps k : Nat)) := by
  rw [modK _ (by omega)]
  unfold nxt
  rw [Int.natCast_emod]
  rfl
section
variable {a b : Pt} (ha : Nr a) (hb : Nr b) (hab : a ≠ b)
include ha hb hab
theorem gcd_pos : 0 < Int.gcd (b.1 - a.1) (b.2 - a.2) := by
  refine Nat.pos_of_ne_zero fun z => hab ?_
  rw [Int.gcd_eq_zero_iff] at z
  exact Prod.ext (by omega) (by omega)
theorem gcd_le : Int.gcd (b.1 - a.1) (b.2 - a.2) ≤ 120 := by
  have h1 := ha.1
  have h2 := ha.2
  have h3 := hb.1
  have h4 := hb.2
  by_cases hw : b.1 - a.1 = 0
  · have hh : b.2 - a.2 ≠ 0 := fun z => hab (Prod.ext (by omega) (by omega))
    have := Nat.le_of_dvd (by omega : 0 < (b.2 - a.2).natAbs) (Int.natAbs_dvd_natAbs.mpr (Int.gcd_dvd_right (b.1 - a.1) (b.2 - a.2)))
    rw [Int.natAbs_natCast] at this
    omega
  · have := Nat.le_of_dvd (by omega : 0 < (b.1 - a.1).natAbs) (Int.natAbs_dvd_natAbs.mpr (Int.gcd_dvd_left (b.1 - a.1) (b.2 - a.2)))
    rw [Int.natAbs_natCast] at this
    omega
theorem nrm_sm : (sideP a b).1.1.natAbs ≤ 2000 ∧ (sideP a b).1.2.natAbs ≤ 2000 := by
  have h1 := ha.1
  have h2 := ha.2
  have h3 := hb.1
  have h4 := hb.2
  have k1 := Int.natAbs_ediv_le_natAbs (b.2 - a.2) ((Int.gcd (b.1 - a.1) (b.2 - a.2) : Nat) : Int)
  have k2 := Int.natAbs_ediv_le_natAbs (b.1 - a.1) ((Int.gcd (b.1 - a.1) (b.2 - a.2) : Nat) : Int)
  unfold sideP
  dsimp only
  omega
end
noncomputable def BS : EnvS → Out := (sqO (stO 4 (bin2 ixD (varD 0) (bin2 modD (bin2 addD (varD 2) (cD (.int 1))) (callF lenK (consA (varD 0) nilA)))))
  (sqO (parO 5 6 (consA (bin2 subD (bin2 ixD (varD 4) (cD (.int 0))) (bin2 ixD (varD 3) (cD (.int 0)))) (consA (bin2 subD (bin2 ixD (varD 4) (cD (.int 1))) (bin2 ixD (varD 3) (cD (.int 1)))) nilA)))
  (sqO (stO 7 (callU 2 v_divisor (consA (varD 5) (consA (varD 6) nilA))))
  (sqO (stO 8 (tupD (consA (bin2 fdivD (varD 6) (varD 7)) (consA (bin2 subD (cD (.int 0)) (bin2 fdivD (varD 5) (varD 7))) nilA))))
  (appO 1 (tupD (consA (varD 8) (consA (bin2 addD (bin2 mulD (bin2 ixD (varD 8) (cD (.int 0))) (bin2 ixD (varD 3) (cD (.int 0)))) (bin2 mulD (bin2 ixD (varD 8) (cD (.int 1))) (bin2 ixD (varD 3) (cD (.int 1))))) nilA))))))))
theorem app_sd {i : Nat} {ρ : EnvS} {ss : List Sd} {s : Sd} (h : ss.length ≤ 1000) : appK i (some (some (.ow (ss.map sdD)))) (.ok (sdD s)) ρ = .nx (ρ.set i (some (.ow ((ss ++ [s]).map sdD)))) := by
  rw [appK_ok (by unfold lineOk; rw [List.length_map]; exact decide_eq_true (by omega)), List.map_append]
  rfl
section
variable {ps : List Pt} (hps : ∀ x ∈ ps, Nr x) (hl : ps.length ≤ 200) (hadj : AdjOk ps)
include hps hl hadj
theorem side_step {ss : List Sd} (hss : ss.length ≤ 500) {k : Nat} (hk : k < ps.length) {z4 z5 z6 z7 z8 : Option Sl} : ∃ w4 w5 w6 w7 w8, BS [some (.pu (.tuple (ps.map prD2))), some (.ow (ss.map sdD)), some (.pu (.int (k : Nat))), some (.pu (prD2 (cAt ps k))), z4, z5, z6, z7, z8] = .nx [some (.pu (.tuple (ps.map prD2))), some (.ow ((ss ++ [sideP (cAt ps k) (cAt ps (nxt ps k))]).map sdD)), some (.pu (.int (k : Nat))), some (.pu (prD2 (cAt ps k))), w4, w5, w6, w7, w8] := by
  have ha := hps _ (cAt_mem hk)
  have hb := hps _ (cAt_mem (nxt_lt hk))
  have hab := hadj k hk
  generalize hA : cAt ps k = a at *
  generalize hB : cAt ps (nxt ps k) = b at *
  have hg := gcd_pos ha hb hab
  have hg2 := gcd_le ha hb hab
  have hn := nrm_sm ha hb hab
  refine ⟨some (.pu (prD2 b)), some (.pu (.int (b.1 - a.1))), some (.pu (.int (b.2 - a.2))), some (.pu (.int (Int.gcd (b.1 - a.1) (b.2 - a.2) : Nat))), some (.pu (prD2 (sideP a b).1)), ?_⟩
  unfold BS
  rw [sq_nx (st_nx (d := prD2 b) (by
    rw [bin2_ap, varD_zero, bin2_ap, bin2_ap, show varD 2 [some (.pu (.tuple (ps.map prD2))), some (.ow (ss.map sdD)), some (.pu (.int (k : Nat))), some (.pu (prD2 a)), z4, z5, z6, z7, z8] = .ok (.int (k : Nat)) from rfl, cD_ap, k2_ok, addD_int, callF_ap, consA_ap, varD_zero, nilA_ap, cnK_ok, R.ok_bind, lenK_tuple, List.length_map, k2_ok, mod_nxt hk (by omega), k2_ok, ixT (nxt_lt hk), hB]))]
  simp only [List.set]
  rw [sq_nx (show parO 5 6 _ [some (.pu (.tuple (ps.map prD2))), some (.ow (ss.map sdD)), some (.pu (.int (k : Nat))), some (.pu (prD2 a)), some (.pu (prD2 b)), z5, z6, z7, z8] = .nx [some (.pu (.tuple (ps.map prD2))), some (.ow (ss.map sdD)), some (.pu (.int (k : Nat))), some (.pu (prD2 a)), some (.pu (prD2 b)), some (.pu (.int (b.1 - a.1))), some (.pu (.int (b.2 - a.2))), z7, z8] from rfl)]
  rw [sq_nx (st_nx (show callU 2 v_divisor (consA (varD 5) (consA (varD 6) nilA)) [some (.pu (.tuple (ps.map prD2))), some (.ow (ss.map sdD)), some (.pu (.int (k : Nat))), some (.pu (prD2 a)), some (.pu (prD2 b)), some (.pu (.int (b.1 - a.1))), some (.pu (.int (b.2 - a.2))), z7, z8] = .ok (.int (Int.gcd (b.1 - a.1) (b.2 - a.2) : Nat)) from divisor_eq _ _))]
  simp only [List.set]
  rw [sq_nx (st_nx (d := prD2 (sideP a b).1) (by
    simp only [tupD_ap, consA_ap, bin2_ap, varD_succ, varD_zero, cD_ap, k2_ok, fdivK _ (show (0 : Int) < ((Int.gcd (b.1 - a.1) (b.2 - a.2) : Nat) : Int) by omega) (by omega), subD_int, nilA_ap, cnK_ok]
    rfl))]
  simp only [List.set]
  rw [appO_ap]
  have e : tupD (consA (varD 8) (consA (bin2 addD (bin2 mulD (bin2 ixD (varD 8) (cD (.int 0))) (bin2 ixD (varD 3) (cD (.int 0)))) (bin2 mulD (bin2 ixD (varD 8) (cD (.int 1))) (bin2 ixD (varD 3) (cD (.int 1))))) nilA)) [some (.pu (.tuple (ps.map prD2))), some (.ow (ss.map sdD)), some (.pu (.int (k : Nat))), some (.pu (prD2 a)), some (.pu (prD2 b)), some (.pu (.int (b.1 - a.1))), some (.pu (.int (b.2 - a.2))), some (.pu (.int (Int.gcd (b.1 - a.1) (b.2 - a.2) : Nat))), some (.pu (prD2 (sideP a b).1))] = .ok (sdD (sideP a b)) := by
    have a1 : a.1.natAbs ≤ 2000 := by have := ha.1; omega
    have a2 : a.2.natAbs ≤ 2000 := by have := ha.2; omega
    simp only [tupD_ap, consA_ap, bin2_ap, varD_succ, varD_zero, cD_ap, k2_ok, ixP0, ixP1, mul11 hn.1 a1, mul11 hn.2 a2, addD_int, nilA_ap, cnK_ok]
    rfl
  rw [e]
  exact app_sd (by omega)
theorem side_loop : ∀ (rest pre : List Pt) (ss : List Sd) (z2 z3 z4 z5 z6 z7 z8 : Option Sl), ps = pre ++ rest → ss.length = pre.length →
    ∃ w2 w3 w4 w5 w6 w7 w8, forO (tupG 2 (consG (nmG 2) (consG (nmG 3) nilG))) BS (enumFrom pre.length (rest.map prD2)) [some (.pu (.tuple (ps.map prD2))), some (.ow (ss.map sdD)), z2, z3, z4, z5, z6, z7, z8] = .nx [some (.pu (.tuple (ps.map prD2))), some (.ow ((ss ++ (List.range' pre.length rest.length).map fun k => sideP (cAt ps k) (cAt ps (nxt ps k))).map sdD)), w2, w3, w4, w5, w6, w7, w8]
  | [], pre, ss, z2, z3, z4, z5, z6, z7, z8, _, _ => ⟨z2, z3, z4, z5, z6, z7, z8, by rw [List.length_nil, List.range'_zero]; simp only [List.map_nil, List.append_nil]; rfl⟩
  | c :: rest, pre, ss, z2, z3, z4, z5, z6, z7, z8, h, hs => by
    have hk : pre.length < ps.length := by rw [h, List.length_append, List.length_cons]; omega
    have hc : cAt ps pre.length = c := by
      unfold cAt
      rw [h, List.getD_eq_getElem?_getD, List.getElem?_append_right (Nat.le_refl _), Nat.sub_self]
      rfl
    obtain ⟨v4, v5, v6, v7, v8, e⟩ := side_step hps hl hadj (ss := ss) (by omega) hk (z4 := z4) (z5 := z5) (z6 := z6) (z7 := z7) (z8 := z8)
    rw [hc] at e
    obtain ⟨w2, w3, w4, w5, w6, w7, w8, e2⟩ := side_loop rest (pre ++ [c]) (ss ++ [sideP (cAt ps pre.length) (cAt ps (nxt ps pre.length))]) (some (.pu (.int (pre.length : Nat)))) (some (.pu (prD2 c))) v4 v5 v6 v7 v8 (by rw [h, List.append_assoc]; rfl) (by rw [List.length_append, List.length_append, hs]; rfl)
    refine ⟨w2, w3, w4, w5, w6, w7, w8, ?_⟩
    rw [List.map_cons, enumFrom, forO_cons (ρ1 := [some (.pu (.tuple (ps.map prD2))), some (.ow (ss.map sdD)), some (.pu (.int (pre.length : Nat))), some (.pu (prD2 c)), z4, z5, z6, z7, z8]) rfl e]
    rw [hc] at e2
    rw [List.length_append, List.length_singleton] at e2
    rw [e2, List.length_cons, List.range'_succ, List.map_cons, hc, List.append_assoc]
    rfl
theorem sides_eq : v_sides_by [.tuple (ps.map prD2)] = .ok (.tuple ((sidesP ps).map sdD)) := by
  obtain ⟨w2, w3, w4, w5, w6, w7, w8, e⟩ := side_loop hps hl hadj ps [] [] none none none none none none none rfl rfl
  show fnK (b_sides_by [some (.pu (.tuple (ps.map prD2))), none, none, none, none, none, none, none, none]) = _
  unfold b_sides_by
  refine (congrArg fnK (sq_nx (ρ1 := [some (.pu (.tuple (ps.map prD2))), some (.ow []), none, none, none, none, none, none, none]) rfl)).trans ?_
  refine (congrArg fnK (sq_nx (show loO (enuA (varD 0)) _ BS [some (.pu (.tuple (ps.map prD2))), some (.ow []), none, none, none, none, none, none, none] = _ from (by
    rw [loO_ap, show enuA (varD 0) [some (.pu (.tuple (ps.map prD2))), some (.ow []), none, none, none, none, none, none, none] = .ok (enumFrom 0 (ps.map prD2)) from rfl, loK_ok]
    exact e)))).trans ?_
  rw [List.nil_append, List.length_nil, ← List.range_eq_range']
  rfl
end
end Mt

namespace Mt
open PySem PySem.Spec PyProof.Rows L2 TD Dn
/-! ### the law's own sides -/
def nD (n : Nat) : D := .int (n : Nat)
theorem rg_nD (n : Nat) : rngD 0 n = (List.range n).map nD := by
  unfold rngD nD
  exact List.map_congr_left fun i _ => by rw [Int.zero_add]
noncomputable def ELst : EnvS → R (List D) := (lcF (rng2F (cD (.int 1)) (cD (.int 130))) (nmG 8) (andB (asF (bin2 eqD (bin2 modD (bin2 ixD (varD 5) (cD (.int 0))) (varD 8)) (cD (.int 0)))) (asF (bin2 eqD (bin2 modD (bin2 ixD (varD 5) (cD (.int 1))) (varD 8)) (cD (.int 0))))) (varD 8) [8])
noncomputable def BLS : EnvS → Out := (sqO (parO 3 4 (consA (bin2 ixD (varD 0) (varD 2)) (consA (bin2 ixD (varD 0) (bin2 modD (bin2 addD (varD 2) (cD (.int 1))) (callF lenK (consA (varD 0) nilA)))) nilA)))
  (sqO (stO 5 (tupD (consA (bin2 subD (bin2 ixD (varD 4) (cD (.int 1))) (bin2 ixD (varD 3) (cD (.int 1)))) (consA (bin2 subD (bin2 ixD (varD 3) (cD (.int 0))) (bin2 ixD (varD 4) (cD (.int 0)))) nilA))))
  (sqO (stO 6 (callF maxK ELst))
  (sqO (stO 7 (tupD (consA (bin2 fdivD (bin2 ixD (varD 5) (cD (.int 0))) (varD 6)) (consA (bin2 fdivD (bin2 ixD (varD 5) (cD (.int 1))) (varD 6)) nilA))))
  (appO 1 (tupD (consA (varD 7) (consA (bin2 addD (bin2 mulD (bin2 ixD (varD 7) (cD (.int 0))) (bin2 ixD (varD 3) (cD (.int 0)))) (bin2 mulD (bin2 ixD (varD 7) (cD (.int 1))) (bin2 ixD (varD 3) (cD (.int 1))))) nilA))))))))
theorem lsides_eq' : b__law_sides = sqO (owO 1 (newD nilA)) (sqO (loO (rng1F (callF lenK (consA (varD 0) nilA))) (nmG 2) BLS) (rtO (callF (fun ds => .ok (.tuple ds)) (ownD 1)))) := rfl
def divsP (u v : Int) : List Int := ((List.range 129).filter fun i => decide (u % (1 + (i : Nat) : Int) = 0) && decide (v % (1 + (i : Nat) : Int) = 0)).map fun i => (1 + (i : Nat) : Int)
theorem maxdiv {u v : Int} (h0 : 0 < Int.gcd u v) (h1 : Int.gcd u v ≤ 129) : divsP u v ≠ [] ∧ maxI (divsP u v) = (Int.gcd u v : Nat) := by
  have hg : ((Int.gcd u v : Nat) : Int) ∈ divsP u v := by
    refine List.mem_map.mpr ⟨Int.gcd u v - 1, List.mem_filter.mpr ⟨List.mem_range.mpr (by omega), ?_⟩, by omega⟩
    have e : (1 + ((Int.gcd u v - 1 : Nat) : Int)) = (Int.gcd u v : Nat) := by omega
    rw [e, Bool.and_eq_true, decide_eq_true_eq, decide_eq_true_eq]
    exact ⟨Int.emod_eq_zero_of_dvd (Int.gcd_dvd_left u v), Int.emod_eq_zero_of_dvd (Int.gcd_dvd_right u v)⟩
  have hne : divsP u v ≠ [] := List.ne_nil_of_mem hg
  refine ⟨hne, ?_⟩
  obtain ⟨m1, m2⟩ := maxI_mem hne
  have h3 := m2 _ hg
  obtain ⟨i, hi, e⟩ := List.mem_map.mp m1
  have hf := (List.mem_filter.mp hi).2
  rw [Bool.and_eq_true, decide_eq_true_eq, decide_eq_true_eq, e] at hf
  have hd := Int.dvd_coe_gcd (Int.dvd_of_emod_eq_zero hf.1) (Int.dvd_of_emod_eq_zero hf.2)
  have := Int.le_of_dvd (by omega) hd
  omega
theorem lst_eq {A O z2 z3 z4 z6 z7 z8 : Option Sl} {u v : Int} : ELst [A, O, z2, z3, z4, some (.pu (.tuple [.int u, .int v])), z6, z7, z8] = .ok ((divsP u v).map .int) := by
  unfold ELst
  rw [lcF_ap, show rng2F (cD (.int 1)) (cD (.int 130)) [A, O, z2, z3, z4, some (.pu (.tuple [.int u, .int v])), z6, z7, z8] = .ok ((List.range 129).map fun i => .int (1 + (i : Nat))) from rfl, lcK_ok (by rw [List.length_map, List.length_range]; rfl)]
  rw [comp_filtG (p := fun i => decide (u % (1 + (i : Nat) : Int) = 0) && decide (v % (1 + (i : Nat) : Int) = 0)) (h := fun i => .int (1 + (i : Nat))) (List.range 129) (fun i _ => ?_) (fun i _ => rfl)]
  · unfold divsP
    rw [List.map_map]
    rfl
  · show andB _ _ [A, O, z2, z3, z4, some (.pu (.tuple [.int u, .int v])), z6, z7, some (.pu (.int (1 + (i : Nat))))] = _
    have e1 : bin2 modD (bin2 ixD (varD 5) (cD (.int 0))) (varD 8) [A, O, z2, z3, z4, some (.pu (.tuple [.int u, .int v])), z6, z7, some (.pu (.int (1 + (i : Nat))))] = .ok (.int (u % (1 + (i : Nat)))) := by
      show modD (.int u) (.int (1 + (i : Nat))) = _
      exact modK _ (by omega)
    have e2 : bin2 modD (bin2 ixD (varD 5) (cD (.int 1))) (varD 8) [A, O, z2, z3, z4, some (.pu (.tuple [.int u, .int v])), z6, z7, some (.pu (.int (1 + (i : Nat))))] = .ok (.int (v % (1 + (i : Nat)))) := by
      show modD (.int v) (.int (1 + (i : Nat))) = _
      exact modK _ (by omega)
    rw [andB_ap, asF_ap, bin2_ap, e1, cD_ap, k2_ok, eqD_int, asB_ok]
    cases decide (u % (1 + (i : Nat) : Int) = 0) with
    | false => rfl
    | true =>
      rw [andK_t, asF_ap, bin2_ap, e2, cD_ap, k2_ok, eqD_int, asB_ok]
      rfl
section
variable {ps : List Pt} (hps : ∀ x ∈ ps, Nr x) (hl : ps.length ≤ 200) (hadj : AdjOk ps)
include hps hl hadj
theorem lside_step {ss : List Sd} (hss : ss.length ≤ 500) {k : Nat} (hk : k < ps.length) {z3 z4 z5 z6 z7 z8 : Option Sl} : ∃ w3 w4 w5 w6 w7, BLS [some (.pu (.tuple (ps.map prD2))), some (.ow (ss.map sdD)), some (.pu (nD k)), z3, z4, z5, z6, z7, z8] = .nx [some (.pu (.tuple (ps.map prD2))), some (.ow ((ss ++ [sideP (cAt ps k) (cAt ps (nxt ps k))]).map sdD)), some (.pu (nD k)), w3, w4, w5, w6, w7, z8] := by
  have ha := hps _ (cAt_mem hk)
  have hb := hps _ (cAt_mem (nxt_lt hk))
  have hab := hadj k hk
  have i1 := ixT hk
  have i2 := ixT (nxt_lt hk)
  generalize hA : cAt ps k = a at *
  generalize hB : cAt ps (nxt ps k) = b at *
  have hg := gcd_pos ha hb hab
  have hg2 := gcd_le ha hb hab
  have hn := nrm_sm ha hb hab
  have eg : Int.gcd (b.2 - a.2) (a.1 - b.1) = Int.gcd (b.1 - a.1) (b.2 - a.2) := by
    rw [Int.gcd_comm, show a.1 - b.1 = -(b.1 - a.1) by omega, Int.neg_gcd]
  have em : callF maxK ELst [some (.pu (.tuple (ps.map prD2))), some (.ow (ss.map sdD)), some (.pu (nD k)), some (.pu (prD2 a)), some (.pu (prD2 b)), some (.pu (.tuple [.int (b.2 - a.2), .int (a.1 - b.1)])), z6, z7, z8] = .ok (.int (Int.gcd (b.1 - a.1) (b.2 - a.2) : Nat)) := by
    obtain ⟨h1, h2⟩ := maxdiv (u := b.2 - a.2) (v := a.1 - b.1) (by rw [eg]; exact hg) (by rw [eg]; omega)
    rw [callF_ap, lst_eq, R.ok_bind]
    unfold maxK
    rw [intsOf_map]
    cases ed : divsP (b.2 - a.2) (a.1 - b.1) with
    | nil => exact absurd ed h1
    | cons n ns =>
      dsimp only
      rw [← ed, h2, eg]
  refine ⟨some (.pu (prD2 a)), some (.pu (prD2 b)), some (.pu (.tuple [.int (b.2 - a.2), .int (a.1 - b.1)])), some (.pu (.int (Int.gcd (b.1 - a.1) (b.2 - a.2) : Nat))), some (.pu (prD2 (sideP a b).1)), ?_⟩
  unfold BLS
  have e34 : parO 3 4 (consA (bin2 ixD (varD 0) (varD 2)) (consA (bin2 ixD (varD 0) (bin2 modD (bin2 addD (varD 2) (cD (.int 1))) (callF lenK (consA (varD 0) nilA)))) nilA)) [some (.pu (.tuple (ps.map prD2))), some (.ow (ss.map sdD)), some (.pu (nD k)), z3, z4, z5, z6, z7, z8] = .nx [some (.pu (.tuple (ps.map prD2))), some (.ow (ss.map sdD)), some (.pu (nD k)), some (.pu (prD2 a)), some (.pu (prD2 b)), z5, z6, z7, z8] := by
    have q1 : bin2 ixD (varD 0) (varD 2) [some (.pu (.tuple (ps.map prD2))), some (.ow (ss.map sdD)), some (.pu (nD k)), z3, z4, z5, z6, z7, z8] = .ok (prD2 a) := i1
    have q2 : bin2 ixD (varD 0) (bin2 modD (bin2 addD (varD 2) (cD (.int 1))) (callF lenK (consA (varD 0) nilA))) [some (.pu (.tuple (ps.map prD2))), some (.ow (ss.map sdD)), some (.pu (nD k)), z3, z4, z5, z6, z7, z8] = .ok (prD2 b) := by
      rw [bin2_ap, varD_zero, bin2_ap, bin2_ap, show varD 2 [some (.pu (.tuple (ps.map prD2))), some (.ow (ss.map sdD)), some (.pu (nD k)), z3, z4, z5, z6, z7, z8] = .ok (.int (k : Nat)) from rfl, cD_ap, k2_ok, addD_int, callF_ap, consA_ap, varD_zero, nilA_ap, cnK_ok, R.ok_bind, lenK_tuple, List.length_map, k2_ok, mod_nxt hk (by omega), k2_ok, i2]
    unfold parO
    rw [consA_ap, q1, consA_ap, q2, nilA_ap]
    rfl
  rw [sq_nx e34, sq_nx (st_nx (d := .tuple [.int (b.2 - a.2), .int (a.1 - b.1)]) rfl)]
  simp only [List.set]
  rw [sq_nx (st_nx em)]
  simp only [List.set]
  rw [sq_nx (st_nx (d := prD2 (sideP a b).1) (by
    have g0 : (0 : Int) < ((Int.gcd (b.1 - a.1) (b.2 - a.2) : Nat) : Int) := by omega
    have f1 : bin2 fdivD (bin2 ixD (varD 5) (cD (.int 0))) (varD 6) [some (.pu (.tuple (ps.map prD2))), some (.ow (ss.map sdD)), some (.pu (nD k)), some (.pu (prD2 a)), some (.pu (prD2 b)), some (.pu (.tuple [.int (b.2 - a.2), .int (a.1 - b.1)])), some (.pu (.int (Int.gcd (b.1 - a.1) (b.2 - a.2) : Nat))), z7, z8] = .ok (.int ((b.2 - a.2) / (Int.gcd (b.1 - a.1) (b.2 - a.2) : Nat))) := fdivK _ g0 (by omega)
    have f2 : bin2 fdivD (bin2 ixD (varD 5) (cD (.int 1))) (varD 6) [some (.pu (.tuple (ps.map prD2))), some (.ow (ss.map sdD)), some (.pu (nD k)), some (.pu (prD2 a)), some (.pu (prD2 b)), some (.pu (.tuple [.int (b.2 - a.2), .int (a.1 - b.1)])), some (.pu (.int (Int.gcd (b.1 - a.1) (b.2 - a.2) : Nat))), z7, z8] = .ok (.int (0 - (b.1 - a.1) / (Int.gcd (b.1 - a.1) (b.2 - a.2) : Nat))) := by
      show fdivD (.int (a.1 - b.1)) (.int (Int.gcd (b.1 - a.1) (b.2 - a.2) : Nat)) = _
      rw [fdivK _ g0 (by omega), show a.1 - b.1 = -(b.1 - a.1) by omega, Int.neg_ediv_of_dvd (Int.gcd_dvd_left (b.1 - a.1) (b.2 - a.2)), Int.zero_sub]
    rw [tupD_ap, consA_ap, f1, consA_ap, f2, nilA_ap]
    rfl))]
  simp only [List.set]
  rw [appO_ap]
  have e : tupD (consA (varD 7) (consA (bin2 addD (bin2 mulD (bin2 ixD (varD 7) (cD (.int 0))) (bin2 ixD (varD 3) (cD (.int 0)))) (bin2 mulD (bin2 ixD (varD 7) (cD (.int 1))) (bin2 ixD (varD 3) (cD (.int 1))))) nilA)) [some (.pu (.tuple (ps.map prD2))), some (.ow (ss.map sdD)), some (.pu (nD k)), some (.pu (prD2 a)), some (.pu (prD2 b)), some (.pu (.tuple [.int (b.2 - a.2), .int (a.1 - b.1)])), some (.pu (.int (Int.gcd (b.1 - a.1) (b.2 - a.2) : Nat))), some (.pu (prD2 (sideP a b).1)), z8] = .ok (sdD (sideP a b)) := by
    have a1 : a.1.natAbs ≤ 2000 := by have := ha.1; omega
    have a2 : a.2.natAbs ≤ 2000 := by have := ha.2; omega
    simp only [tupD_ap, consA_ap, bin2_ap, varD_succ, varD_zero, cD_ap, k2_ok, ixP0, ixP1, mul11 hn.1 a1, mul11 hn.2 a2, addD_int, nilA_ap, cnK_ok]
    rfl
  rw [e]
  exact app_sd (by omega)
theorem lside_loop : ∀ (ks : List Nat) (ss : List Sd) (z2 z3 z4 z5 z6 z7 z8 : Option Sl), (∀ k ∈ ks, k < ps.length) → ss.length + ks.length ≤ 400 →
    ∃ w2 w3 w4 w5 w6 w7 w8, forO (nmG 2) BLS (ks.map nD) [some (.pu (.tuple (ps.map prD2))), some (.ow (ss.map sdD)), z2, z3, z4, z5, z6, z7, z8] = .nx [some (.pu (.tuple (ps.map prD2))), some (.ow ((ss ++ ks.map fun k => sideP (cAt ps k) (cAt ps (nxt ps k))).map sdD)), w2, w3, w4, w5, w6, w7, w8]
  | [], ss, z2, z3, z4, z5, z6, z7, z8, _, _ => ⟨z2, z3, z4, z5, z6, z7, z8, by simp only [List.map_nil, List.append_nil]; rfl⟩
  | k :: ks, ss, z2, z3, z4, z5, z6, z7, z8, h, hs => by
    rw [List.length_cons] at hs
    obtain ⟨v3, v4, v5, v6, v7, e⟩ := lside_step hps hl hadj (ss := ss) (by omega) (h k List.mem_cons_self) (z3 := z3) (z4 := z4) (z5 := z5) (z6 := z6) (z7 := z7) (z8 := z8)
    obtain ⟨w2, w3, w4, w5, w6, w7, w8, e2⟩ := lside_loop ks (ss ++ [sideP (cAt ps k) (cAt ps (nxt ps k))]) (some (.pu (nD k))) v3 v4 v5 v6 v7 z8 (fun j hj => h j (List.mem_cons_of_mem _ hj)) (by rw [List.length_append, List.length_singleton]; omega)
    refine ⟨w2, w3, w4, w5, w6, w7, w8, ?_⟩
    rw [List.map_cons, forO_cons (ρ1 := [some (.pu (.tuple (ps.map prD2))), some (.ow (ss.map sdD)), some (.pu (nD k)), z3, z4, z5, z6, z7, z8]) rfl e, e2, List.map_cons, List.append_assoc]
    rfl
theorem lsides_eq : v__law_sides [.tuple (ps.map prD2)] = .ok (.tuple ((sidesP ps).map sdD)) := by
  obtain ⟨w2, w3, w4, w5, w6, w7, w8, e⟩ := lside_loop hps hl hadj (List.range ps.length) [] none none none none none none none (fun k hk => List.mem_range.mp hk) (by rw [List.length_nil, List.length_range]; omega)
  unfold v__law_sides
  rw [fnR_ap, show argS 9 [.tuple (ps.map prD2)] = [some (.pu (.tuple (ps.map prD2))), none, none, none, none, none, none, none, none] from rfl, lsides_eq']
  refine (congrArg fnK (sq_nx (ρ1 := [some (.pu (.tuple (ps.map prD2))), some (.ow []), none, none, none, none, none, none, none]) rfl)).trans ?_
  refine (congrArg fnK (sq_nx (show loO (rng1F (callF lenK (consA (varD 0) nilA))) (nmG 2) BLS [some (.pu (.tuple (ps.map prD2))), some (.ow []), none, none, none, none, none, none, none] = _ from (by
    rw [loO_ap, rng1F_ap, callF_ap, consA_ap, varD_zero, nilA_ap, cnK_ok, R.ok_bind, lenK_tuple, List.length_map, rg_ok (by omega), rg_nD, loK_ok]
    exact e)))).trans ?_
  rw [List.nil_append]
  rfl
end
end Mt

namespace Mt
open PySem PySem.Spec PyProof.Rows L2 TD Dn
/-! ### what is looked at shape by shape, by reckoning -/
noncomputable def bLF : EnvS → Out :=
  (sqO (ifO (orB (notB (asF (isiD "tuple" (varD 0)))) (orB (notB (asF (chD ltD ltD (cD (.int 2)) (callF lenK (consA (varD 0) nilA)) (cD (.int 9))))) (notB (asF (callF allK (lcF (seqF (varD 0)) (nmG 1) yesB (andV (isiD "tuple" (varD 1)) (bin2 eqD (callF lenK (consA (varD 1) nilA)) (cD (.int 2)))) [1]))))))
  (rtO (tupD (consA (cD (.str "form")) nilA)))
  nxO)
  (sqO (ifO (notB (asF (callF allK (lcF (seqF (varD 0)) (nmG 1) yesB (callF allK (lcF (seqF (varD 1)) (nmG 5) yesB (andV (isiD "int" (varD 5)) (andV (notV (isiD "bool" (varD 5))) (chD ltD ltD (un1 negD (cD (.int 31))) (varD 5) (cD (.int 31))))) [5])) [1]))))
  (rtO (tupD (consA (cD (.str "form")) nilA)))
  nxO)
  (sqO (ifO (asF (bin2 neD (bin2 ixD (varD 0) (cD (.int 0))) (un1 minPD (varD 0))))
  (rtO (tupD (consA (cD (.str "first")) nilA)))
  nxO)
  (sqO (loO (rng1F (callF lenK (consA (varD 0) nilA))) (nmG 2)
  (sqO (unO (tupD (consA (bin2 ixD (varD 0) (bin2 subD (varD 2) (cD (.int 1)))) (consA (bin2 ixD (varD 0) (varD 2)) (consA (bin2 ixD (varD 0) (bin2 modD (bin2 addD (varD 2) (cD (.int 1))) (callF lenK (consA (varD 0) nilA)))) nilA)))) (tupG 3 (consG (nmG 1) (consG (nmG 3) (consG (nmG 4) nilG)))))
  (ifO (orB (asF (bin2 leD (callU 3 v__law_turn (consA (varD 1) (consA (varD 3) (consA (varD 4) nilA)))) (cD (.int 0)))) (notB (asF (callF allK (lcF (seqF (varD 0)) (nmG 6) (andB (asF (bin2 neD (varD 6) (varD 1))) (asF (bin2 neD (varD 6) (varD 3)))) (bin2 gtD (callU 3 v__law_turn (consA (varD 1) (consA (varD 3) (consA (varD 6) nilA)))) (cD (.int 0))) [6])))))
  (rtO (tupD (consA (cD (.str "corner")) (consA (varD 2) nilA))))
  nxO)))
  (rtO (cD .none))))))
noncomputable def vLF : List D → R D := fnR 7 bLF
def isFls : R D → Bool | .ok (.bool false) => true | _ => false
def isNone : R D → Bool | .ok .none => true | _ => false
def isI (r : R D) (n : Int) : Bool := match r with | .ok (.int m) => decide (m = n) | _ => false
def eqPs : List D → List Pt → Bool
  | [], [] => true
  | d :: ds, p :: ps => (match pairOf d with | some q => decide (q = p) | none => false) && eqPs ds ps
  | _, _ => false
def isTup (r : R D) (ps : List Pt) : Bool := match r with | .ok (.tuple ds) => eqPs ds ps | _ => false
theorem isFls_eq {r : R D} (h : isFls r = true) : r = .ok (.bool false) := by
  unfold isFls at h
  split at h
  · rfl
  · cases h
theorem isNone_eq {r : R D} (h : isNone r = true) : r = .ok .none := by
  unfold isNone at h
  split at h
  · rfl
  · cases h
theorem isI_eq {r : R D} {n : Int} (h : isI r n = true) : r = .ok (.int n) := by
  unfold isI at h
  split at h
  · rw [of_decide_eq_true h]
  · cases h
theorem eqPs_eq : ∀ {ds : List D} {ps : List Pt}, eqPs ds ps = true → ds = ps.map prD2
  | [], [], _ => rfl
  | d :: ds, p :: ps, h => by
    unfold eqPs at h
    rw [Bool.and_eq_true] at h
    rw [List.map_cons, ← eqPs_eq h.2]
    cases e : pairOf d with
    | none => rw [e] at h; cases h.1
    | some q =>
      rw [e] at h
      rw [← of_decide_eq_true h.1, ← pairOf_some e]
  | [], _ :: _, h => by cases h
  | _ :: _, [], h => by cases h
theorem isTup_eq {r : R D} {ps : List Pt} (h : isTup r ps = true) : r = .ok (.tuple (ps.map prD2)) := by
  unfold isTup at h
  split at h
  · rw [eqPs_eq h]
  · cases h
def shapeP (k w h : Int) : List Pt := 
  if k < 2 then [(0, 0), (w, 0), (w, h), (0, h)] else if k = 2 then [(0, 0), (w, 0), (0, h)] else if k = 3 then [(0, 0), (w, 0 - 1), (w + 1, h)]
  else if k = 4 then [(0, 0), (1, 0 - 1), (2, 0), (1, 1)] else if k = 5 then [(0, 0), (1, -1), (w, -1), (w + 1, 0), (w, h - 1), (1, h - 1)]
  else if k = 6 then [(0, 0), (w, 0), (w + 1, h), (1, h)] else [(0, 0), (w, -1), (w, h), (1, h + 1)]
def shapesL : List (List Pt) := [shapeP 4 2 2] ++ ([0, 2, 3, 5, 6, 7].flatMap fun k => [2, 3, 4].flatMap fun w => [2, 3, 4].map fun h => shapeP k w h)
abbrev shD (ps : List Pt) : D := .tuple (ps.map prD2)
def adjB (ps : List Pt) : Bool := (List.range ps.length).all fun k => !decide (cAt ps k = cAt ps (nxt ps k))
def nrB (ps : List Pt) : Bool := ps.all fun p => decide (p.1.natAbs ≤ 60) && decide (p.2.natAbs ≤ 60)
def goodP (ps : List Pt) : Bool := adjB ps && nrB ps && decide (1 ≤ ps.length ∧ ps.length ≤ 200)
structure Good (ps : List Pt) : Prop where
  adj : AdjOk ps
  nr : ∀ x ∈ ps, Nr x
  l1 : 1 ≤ ps.length
  l2 : ps.length ≤ 200
theorem good_of {ps : List Pt} (h : goodP ps = true) : Good ps := by
  unfold goodP at h
  rw [Bool.and_eq_true, Bool.and_eq_true] at h
  obtain ⟨⟨h1, h2⟩, h3⟩ := h
  have h3 := of_decide_eq_true h3
  refine ⟨fun k hk e => ?_, fun x hx => ?_, h3.1, h3.2⟩
  · unfold adjB at h1
    have := List.all_eq_true.mp h1 k (List.mem_range.mpr hk)
    rw [decide_eq_true e] at this
    cases this
  · unfold nrB at h2
    have := List.all_eq_true.mp h2 x hx
    rw [Bool.and_eq_true, decide_eq_true_eq, decide_eq_true_eq] at this
    exact this
/-- two shapes: the hull of the differences -/
def chk2 (a b : List Pt) : Bool := 
  let ws := waysP a b
  match sortU ws with
  | [] => false
  | h0 :: _ => match wrapP ws h0 20 h0 [h0] with
    | none => false
    | some r => decide (r = hullP ws) && goodP r
def chkRow (a : List Pt) : Bool := shapesL.all fun b => chk2 a b
structure Two (a b : List Pt) : Prop where
  wrap : ∃ h0 t, sortU (waysP a b) = h0 :: t ∧ wrapP (waysP a b) h0 20 h0 [h0] = some (hullP (waysP a b))
  good : Good (hullP (waysP a b))
theorem two_of {a b : List Pt} (h : chk2 a b = true) : Two a b := by
  unfold chk2 at h
  dsimp only at h
  split at h
  · cases h
  · rename_i h0 t e
    split at h
    · cases h
    · rename_i r e2
      rw [Bool.and_eq_true] at h
      have h1 := of_decide_eq_true h.1
      have h2 := good_of h.2
      subst h1
      exact ⟨⟨h0, t, e, e2⟩, h2⟩
def negP (ps : List Pt) : List Pt := ps.map fun p => (0 - p.1, 0 - p.2)
def prv (ps : List Pt) (k : Nat) : Nat := if k = 0 then ps.length - 1 else k - 1
def areaP (ps : List Pt) : Int := ((List.range ps.length).map fun i => (cAt ps (prv ps i)).1 * (cAt ps i).2 - (cAt ps (prv ps i)).2 * (cAt ps i).1).sum
def oppP (ps : List Pt) : List Pt := (negP ps).drop (minIx (negP ps)) ++ (negP ps).take (minIx (negP ps))
noncomputable def txtOk (ps : List Pt) : Bool := match v_text_of_shape [shD ps] with
  | .ok (.str t) => isTup (v_shape_of [.str t]) ps
  | _ => false
noncomputable def chkOne (ps : List Pt) : Bool :=
  isNone (v_shape_fault [shD ps]) && (isNone (vLF [shD ps]) && (goodP ps && (isI (v_twice_area [shD ps]) (areaP ps) && (isTup (v_opposite [shD ps]) (oppP ps) &&
  (decide (oppP ps).Nodup && (decide (negP ps).Nodup && (decide (sortU (oppP ps) = sortU (negP ps)) && (isNone (v_shape_fault [shD (oppP ps)]) && (isTup (v_opposite [shD (oppP ps)]) ps && (txtOk ps && decide (3 ≤ ps.length ∧ ps.length ≤ 6)))))))))))
structure One (ps : List Pt) : Prop where
  sf : v_shape_fault [shD ps] = .ok .none
  lf : vLF [shD ps] = .ok .none
  good : Good ps
  area : v_twice_area [shD ps] = .ok (.int (areaP ps))
  opp : v_opposite [shD ps] = .ok (shD (oppP ps))
  srt : sortP (oppP ps) = sortP (negP ps)
  osf : v_shape_fault [shD (oppP ps)] = .ok .none
  oopp : v_opposite [shD (oppP ps)] = .ok (shD ps)
  txt : ∃ t, v_text_of_shape [shD ps] = .ok (.str t) ∧ v_shape_of [.str t] = .ok (shD ps)
  l3 : 3 ≤ ps.length ∧ ps.length ≤ 6
theorem one_of {ps : List Pt} (h : chkOne ps = true) : One ps := by
  unfold chkOne at h
  simp only [Bool.and_eq_true, decide_eq_true_eq] at h
  obtain ⟨h1, h2, h3, h4, h5, h6, h7, h8, h9, h10, h11, h12⟩ := h
  refine ⟨isNone_eq h1, isNone_eq h2, good_of h3, isI_eq h4, isTup_eq h5, ?_, isNone_eq h9, isTup_eq h10, ?_, h12⟩
  · rw [sort_nodup h6, sort_nodup h7, h8]
  · unfold txtOk at h11
    split at h11
    · rename_i t e
      exact ⟨t, e, isTup_eq h11⟩
    · cases h11
/-! ### bent shapes -/
def goodD : D → Bool
  | .tuple ds => (match pairsOf ds with | some ps => goodP ps | none => false)
  | _ => false
noncomputable def lfV (b : D) : R D := match b with
  | .tuple ds => (match pairsOf ds with | some [] => v__law_fault [b] | some _ => vLF [b] | none => v__law_fault [b])
  | _ => v__law_fault [b]
def isTu : R D → Bool | .ok (.tuple _) => true | _ => false
noncomputable def chkB (b : D) : Bool := isFls (k2 neD (v_shape_fault [b]) (lfV b)) && ((isNone (v_shape_fault [b]) && (isNone (lfV b) && goodD b)) || (isTu (v_shape_fault [b]) && isTu (lfV b)))
def newV (s : List Pt) (i : Nat) : List D := [.tuple [.int 31, .int 0], .tuple [.bool true, .int 0], .none, .tuple [.int 0], .tuple [.int (-9), .int (-9)], .tuple [.int 1, .int 1], prD2 (cAt s (prv s i)), .tuple [.int 20, .int 20]]
def bent1 (s : List Pt) (i : Nat) (v : D) : D := .tuple (((s.map prD2).take i ++ [v]) ++ (s.map prD2).drop (i + 1))
def bent2 (s : List Pt) (i : Nat) : D := .tuple ((s.map prD2).take i ++ (s.map prD2).drop (i + 1))
def bent3 (s : List Pt) : D := .tuple (s.map prD2).reverse
def bent4 (s : List Pt) : D := .tuple ((s.map prD2).drop 1 ++ (s.map prD2).take 1)
def bent5 (s : List Pt) : D := .tuple ((s.map prD2) ++ (s.map prD2).take 1)
def bent6 (s : List Pt) : D := .list (s.map prD2)
def bent7 (s : List Pt) (i : Nat) (v : D) : D := .tuple (((s.map prD2).take i ++ [v]) ++ (s.map prD2).drop i)
noncomputable def chkBs (s : List Pt) : Bool := chkB (bent3 s) && (chkB (bent4 s) && (chkB (bent5 s) && (chkB (bent6 s) && (List.range s.length).all fun i => chkB (bent2 s i) && (newV s i).all fun v => chkB (bent1 s i v) && chkB (bent7 s i v))))
end Mt

namespace Mt
open PySem PySem.Spec PyProof.Rows L2 TD Dn
theorem one_0 : chkOne (shapeP 4 2 2) = true := by decide +kernel
theorem one_1 : chkOne (shapeP 0 2 2) = true := by decide +kernel
theorem one_2 : chkOne (shapeP 0 2 3) = true := by decide +kernel
theorem one_3 : chkOne (shapeP 0 2 4) = true := by decide +kernel
theorem one_4 : chkOne (shapeP 0 3 2) = true := by decide +kernel
theorem one_5 : chkOne (shapeP 0 3 3) = true := by decide +kernel
theorem one_6 : chkOne (shapeP 0 3 4) = true := by decide +kernel
theorem one_7 : chkOne (shapeP 0 4 2) = true := by decide +kernel
theorem one_8 : chkOne (shapeP 0 4 3) = true := by decide +kernel
theorem one_9 : chkOne (shapeP 0 4 4) = true := by decide +kernel
theorem one_10 : chkOne (shapeP 2 2 2) = true := by decide +kernel
theorem one_11 : chkOne (shapeP 2 2 3) = true := by decide +kernel
theorem one_12 : chkOne (shapeP 2 2 4) = true := by decide +kernel
theorem one_13 : chkOne (shapeP 2 3 2) = true := by decide +kernel
theorem one_14 : chkOne (shapeP 2 3 3) = true := by decide +kernel
theorem one_15 : chkOne (shapeP 2 3 4) = true := by decide +kernel
theorem one_16 : chkOne (shapeP 2 4 2) = true := by decide +kernel
theorem one_17 : chkOne (shapeP 2 4 3) = true := by decide +kernel
theorem one_18 : chkOne (shapeP 2 4 4) = true := by decide +kernel
theorem one_19 : chkOne (shapeP 3 2 2) = true := by decide +kernel
theorem one_20 : chkOne (shapeP 3 2 3) = true := by decide +kernel
theorem one_21 : chkOne (shapeP 3 2 4) = true := by decide +kernel
theorem one_22 : chkOne (shapeP 3 3 2) = true := by decide +kernel
theorem one_23 : chkOne (shapeP 3 3 3) = true := by decide +kernel
theorem one_24 : chkOne (shapeP 3 3 4) = true := by decide +kernel
theorem one_25 : chkOne (shapeP 3 4 2) = true := by decide +kernel
theorem one_26 : chkOne (shapeP 3 4 3) = true := by decide +kernel
theorem one_27 : chkOne (shapeP 3 4 4) = true := by decide +kernel
theorem one_28 : chkOne (shapeP 5 2 2) = true := by decide +kernel
theorem one_29 : chkOne (shapeP 5 2 3) = true := by decide +kernel
theorem one_30 : chkOne (shapeP 5 2 4) = true := by decide +kernel
theorem one_31 : chkOne (shapeP 5 3 2) = true := by decide +kernel
theorem one_32 : chkOne (shapeP 5 3 3) = true := by decide +kernel
theorem one_33 : chkOne (shapeP 5 3 4) = true := by decide +kernel
theorem one_34 : chkOne (shapeP 5 4 2) = true := by decide +kernel
theorem one_35 : chkOne (shapeP 5 4 3) = true := by decide +kernel
theorem one_36 : chkOne (shapeP 5 4 4) = true := by decide +kernel
theorem one_37 : chkOne (shapeP 6 2 2) = true := by decide +kernel
theorem one_38 : chkOne (shapeP 6 2 3) = true := by decide +kernel
theorem one_39 : chkOne (shapeP 6 2 4) = true := by decide +kernel
theorem one_40 : chkOne (shapeP 6 3 2) = true := by decide +kernel
theorem one_41 : chkOne (shapeP 6 3 3) = true := by decide +kernel
theorem one_42 : chkOne (shapeP 6 3 4) = true := by decide +kernel
theorem one_43 : chkOne (shapeP 6 4 2) = true := by decide +kernel
theorem one_44 : chkOne (shapeP 6 4 3) = true := by decide +kernel
theorem one_45 : chkOne (shapeP 6 4 4) = true := by decide +kernel
theorem one_46 : chkOne (shapeP 7 2 2) = true := by decide +kernel
theorem one_47 : chkOne (shapeP 7 2 3) = true := by decide +kernel
theorem one_48 : chkOne (shapeP 7 2 4) = true := by decide +kernel
theorem one_49 : chkOne (shapeP 7 3 2) = true := by decide +kernel
theorem one_50 : chkOne (shapeP 7 3 3) = true := by decide +kernel
theorem one_51 : chkOne (shapeP 7 3 4) = true := by decide +kernel
theorem one_52 : chkOne (shapeP 7 4 2) = true := by decide +kernel
theorem one_53 : chkOne (shapeP 7 4 3) = true := by decide +kernel
theorem one_54 : chkOne (shapeP 7 4 4) = true := by decide +kernel
theorem bs_0 : chkBs (shapeP 4 2 2) = true := by decide +kernel
theorem bs_1 : chkBs (shapeP 0 2 2) = true := by decide +kernel
theorem bs_2 : chkBs (shapeP 0 2 3) = true := by decide +kernel
theorem bs_3 : chkBs (shapeP 0 2 4) = true := by decide +kernel
theorem bs_4 : chkBs (shapeP 0 3 2) = true := by decide +kernel
theorem bs_5 : chkBs (shapeP 0 3 3) = true := by decide +kernel
theorem bs_6 : chkBs (shapeP 0 3 4) = true := by decide +kernel
theorem bs_7 : chkBs (shapeP 0 4 2) = true := by decide +kernel
theorem bs_8 : chkBs (shapeP 0 4 3) = true := by decide +kernel
theorem bs_9 : chkBs (shapeP 0 4 4) = true := by decide +kernel
theorem bs_10 : chkBs (shapeP 2 2 2) = true := by decide +kernel
theorem bs_11 : chkBs (shapeP 2 2 3) = true := by decide +kernel
theorem bs_12 : chkBs (shapeP 2 2 4) = true := by decide +kernel
theorem bs_13 : chkBs (shapeP 2 3 2) = true := by decide +kernel
theorem bs_14 : chkBs (shapeP 2 3 3) = true := by decide +kernel
theorem bs_15 : chkBs (shapeP 2 3 4) = true := by decide +kernel
theorem bs_16 : chkBs (shapeP 2 4 2) = true := by decide +kernel
theorem bs_17 : chkBs (shapeP 2 4 3) = true := by decide +kernel
theorem bs_18 : chkBs (shapeP 2 4 4) = true := by decide +kernel
theorem bs_19 : chkBs (shapeP 3 2 2) = true := by decide +kernel
theorem bs_20 : chkBs (shapeP 3 2 3) = true := by decide +kernel
theorem bs_21 : chkBs (shapeP 3 2 4) = true := by decide +kernel
theorem bs_22 : chkBs (shapeP 3 3 2) = true := by decide +kernel
theorem bs_23 : chkBs (shapeP 3 3 3) = true := by decide +kernel
theorem bs_24 : chkBs (shapeP 3 3 4) = true := by decide +kernel
theorem bs_25 : chkBs (shapeP 3 4 2) = true := by decide +kernel
theorem bs_26 : chkBs (shapeP 3 4 3) = true := by decide +kernel
theorem bs_27 : chkBs (shapeP 3 4 4) = true := by decide +kernel
theorem bs_28 : chkBs (shapeP 5 2 2) = true := by decide +kernel
theorem bs_29 : chkBs (shapeP 5 2 3) = true := by decide +kernel
theorem bs_30 : chkBs (shapeP 5 2 4) = true := by decide +kernel
theorem bs_31 : chkBs (shapeP 5 3 2) = true := by decide +kernel
theorem bs_32 : chkBs (shapeP 5 3 3) = true := by decide +kernel
theorem bs_33 : chkBs (shapeP 5 3 4) = true := by decide +kernel
theorem bs_34 : chkBs (shapeP 5 4 2) = true := by decide +kernel
theorem bs_35 : chkBs (shapeP 5 4 3) = true := by decide +kernel
theorem bs_36 : chkBs (shapeP 5 4 4) = true := by decide +kernel
theorem bs_37 : chkBs (shapeP 6 2 2) = true := by decide +kernel
theorem bs_38 : chkBs (shapeP 6 2 3) = true := by decide +kernel
theorem bs_39 : chkBs (shapeP 6 2 4) = true := by decide +kernel
theorem bs_40 : chkBs (shapeP 6 3 2) = true := by decide +kernel
theorem bs_41 : chkBs (shapeP 6 3 3) = true := by decide +kernel
theorem bs_42 : chkBs (shapeP 6 3 4) = true := by decide +kernel
theorem bs_43 : chkBs (shapeP 6 4 2) = true := by decide +kernel
theorem bs_44 : chkBs (shapeP 6 4 3) = true := by decide +kernel
theorem bs_45 : chkBs (shapeP 6 4 4) = true := by decide +kernel
theorem bs_46 : chkBs (shapeP 7 2 2) = true := by decide +kernel
theorem bs_47 : chkBs (shapeP 7 2 3) = true := by decide +kernel
theorem bs_48 : chkBs (shapeP 7 2 4) = true := by decide +kernel
theorem bs_49 : chkBs (shapeP 7 3 2) = true := by decide +kernel
theorem bs_50 : chkBs (shapeP 7 3 3) = true := by decide +kernel
theorem bs_51 : chkBs (shapeP 7 3 4) = true := by decide +kernel
theorem bs_52 : chkBs (shapeP 7 4 2) = true := by decide +kernel
theorem bs_53 : chkBs (shapeP 7 4 3) = true := by decide +kernel
theorem bs_54 : chkBs (shapeP 7 4 4) = true := by decide +kernel
theorem one_all : ∀ s ∈ shapesL, chkOne s = true := by
  have e : shapesL = [shapeP 4 2 2, shapeP 0 2 2, shapeP 0 2 3, shapeP 0 2 4, shapeP 0 3 2, shapeP 0 3 3, shapeP 0 3 4, shapeP 0 4 2, shapeP 0 4 3, shapeP 0 4 4, shapeP 2 2 2, shapeP 2 2 3, shapeP 2 2 4, shapeP 2 3 2, shapeP 2 3 3, shapeP 2 3 4, shapeP 2 4 2, shapeP 2 4 3, shapeP 2 4 4, shapeP 3 2 2, shapeP 3 2 3, shapeP 3 2 4, shapeP 3 3 2, shapeP 3 3 3, shapeP 3 3 4, shapeP 3 4 2, shapeP 3 4 3, shapeP 3 4 4, shapeP 5 2 2, shapeP 5 2 3, shapeP 5 2 4, shapeP 5 3 2, shapeP 5 3 3, shapeP 5 3 4, shapeP 5 4 2, shapeP 5 4 3, shapeP 5 4 4, shapeP 6 2 2, shapeP 6 2 3, shapeP 6 2 4, shapeP 6 3 2, shapeP 6 3 3, shapeP 6 3 4, shapeP 6 4 2, shapeP 6 4 3, shapeP 6 4 4, shapeP 7 2 2, shapeP 7 2 3, shapeP 7 2 4, shapeP 7 3 2, shapeP 7 3 3, shapeP 7 3 4, shapeP 7 4 2, shapeP 7 4 3, shapeP 7 4 4] := rfl
  rw [e]
  intro s hs
  rcases List.mem_cons.mp hs with rfl | hs
  · exact one_0
  rcases List.mem_cons.mp hs with rfl | hs
  · exact one_1
  rcases List.mem_cons.mp hs with rfl | hs
  · exact one_2
  rcases List.mem_cons.mp hs with rfl | hs
  · exact one_3
  rcases List.mem_cons.mp hs with rfl | hs
  · exact one_4
  rcases List.mem_cons.mp hs with rfl | hs
  · exact one_5
  rcases List.mem_cons.mp hs with rfl | hs
  · exact one_6
  rcases List.mem_cons.mp hs with rfl | hs
  · exact one_7
  rcases List.mem_cons.mp hs with rfl | hs
  · exact one_8
  rcases List.mem_cons.mp hs with rfl | hs
  · exact one_9
  rcases List.mem_cons.mp hs with rfl | hs
  · exact one_10
  rcases List.mem_cons.mp hs with rfl | hs
  · exact one_11
  rcases List.mem_cons.mp hs with rfl | hs
  · exact one_12
  rcases List.mem_cons.mp hs with rfl | hs
  · exact one_13
  rcases List.mem_cons.mp hs with rfl | hs
  · exact one_14
  rcases List.mem_cons.mp hs with rfl | hs
  · exact one_15
  rcases List.mem_cons.mp hs with rfl | hs
  · exact one_16
  rcases List.mem_cons.mp hs with rfl | hs
  · exact one_17
  rcases List.mem_cons.mp hs with rfl | hs
  · exact one_18
  rcases List.mem_cons.mp hs with rfl | hs
  · exact one_19
  rcases List.mem_cons.mp hs with rfl | hs
  · exact one_20
  rcases List.mem_cons.mp hs with rfl | hs
  · exact one_21
  rcases List.mem_cons.mp hs with rfl | hs
  · exact one_22
  rcases List.mem_cons.mp hs with rfl | hs
  · exact one_23
  rcases List.mem_cons.mp hs with rfl | hs
  · exact one_24
  rcases List.mem_cons.mp hs with rfl | hs
  · exact one_25
  rcases List.mem_cons.mp hs with rfl | hs
  · exact one_26
  rcases List.mem_cons.mp hs with rfl | hs
  · exact one_27
  rcases List.mem_cons.mp hs with rfl | hs
  · exact one_28
  rcases List.mem_cons.mp hs with rfl | hs
  · exact one_29
  rcases List.mem_cons.mp hs with rfl | hs
  · exact one_30
  rcases List.mem_cons.mp hs with rfl | hs
  · exact one_31
  rcases List.mem_cons.mp hs with rfl | hs
  · exact one_32
  rcases List.mem_cons.mp hs with rfl | hs
  · exact one_33
  rcases List.mem_cons.mp hs with rfl | hs
  · exact one_34
  rcases List.mem_cons.mp hs with rfl | hs
  · exact one_35
  rcases List.mem_cons.mp hs with rfl | hs
  · exact one_36
  rcases List.mem_cons.mp hs with rfl | hs
  · exact one_37
  rcases List.mem_cons.mp hs with rfl | hs
  · exact one_38
  rcases List.mem_cons.mp hs with rfl | hs
  · exact one_39
  rcases List.mem_cons.mp hs with rfl | hs
  · exact one_40
  rcases List.mem_cons.mp hs with rfl | hs
  · exact one_41
  rcases List.mem_cons.mp hs with rfl | hs
  · exact one_42
  rcases List.mem_cons.mp hs with rfl | hs
  · exact one_43
  rcases List.mem_cons.mp hs with rfl | hs
  · exact one_44
  rcases List.mem_cons.mp hs with rfl | hs
  · exact one_45
  rcases List.mem_cons.mp hs with rfl | hs
  · exact one_46
  rcases List.mem_cons.mp hs with rfl | hs
  · exact one_47
  rcases List.mem_cons.mp hs with rfl | hs
  · exact one_48
  rcases List.mem_cons.mp hs with rfl | hs
  · exact one_49
  rcases List.mem_cons.mp hs with rfl | hs
  · exact one_50
  rcases List.mem_cons.mp hs with rfl | hs
  · exact one_51
  rcases List.mem_cons.mp hs with rfl | hs
  · exact one_52
  rcases List.mem_cons.mp hs with rfl | hs
  · exact one_53
  rcases List.mem_cons.mp hs with rfl | hs
  · exact one_54
  cases hs
theorem bs_all : ∀ s ∈ shapesL, chkBs s = true := by
  have e : shapesL = [shapeP 4 2 2, shapeP 0 2 2, shapeP 0 2 3, shapeP 0 2 4, shapeP 0 3 2, shapeP 0 3 3, shapeP 0 3 4, shapeP 0 4 2, shapeP 0 4 3, shapeP 0 4 4, shapeP 2 2 2, shapeP 2 2 3, shapeP 2 2 4, shapeP 2 3 2, shapeP 2 3 3, shapeP 2 3 4, shapeP 2 4 2, shapeP 2 4 3, shapeP 2 4 4, shapeP 3 2 2, shapeP 3 2 3, shapeP 3 2 4, shapeP 3 3 2, shapeP 3 3 3, shapeP 3 3 4, shapeP 3 4 2, shapeP 3 4 3, shapeP 3 4 4, shapeP 5 2 2, shapeP 5 2 3, shapeP 5 2 4, shapeP 5 3 2, shapeP 5 3 3, shapeP 5 3 4, shapeP 5 4 2, shapeP 5 4 3, shapeP 5 4 4, shapeP 6 2 2, shapeP 6 2 3, shapeP 6 2 4, shapeP 6 3 2, shapeP 6 3 3, shapeP 6 3 4, shapeP 6 4 2, shapeP 6 4 3, shapeP 6 4 4, shapeP 7 2 2, shapeP 7 2 3, shapeP 7 2 4, shapeP 7 3 2, shapeP 7 3 3, shapeP 7 3 4, shapeP 7 4 2, shapeP 7 4 3, shapeP 7 4 4] := rfl
  rw [e]
  intro s hs
  rcases List.mem_cons.mp hs with rfl | hs
  · exact bs_0
  rcases List.mem_cons.mp hs with rfl | hs
  · exact bs_1
  rcases List.mem_cons.mp hs with rfl | hs
  · exact bs_2
  rcases List.mem_cons.mp hs with rfl | hs
  · exact bs_3
  rcases List.mem_cons.mp hs with rfl | hs
  · exact bs_4
  rcases List.mem_cons.mp hs with rfl | hs
  · exact bs_5
  rcases List.mem_cons.mp hs with rfl | hs
  · exact bs_6
  rcases List.mem_cons.mp hs with rfl | hs
  · exact bs_7
  rcases List.mem_cons.mp hs with rfl | hs
  · exact bs_8
  rcases List.mem_cons.mp hs with rfl | hs
  · exact bs_9
  rcases List.mem_cons.mp hs with rfl | hs
  · exact bs_10
  rcases List.mem_cons.mp hs with rfl | hs
  · exact bs_11
  rcases List.mem_cons.mp hs with rfl | hs
  · exact bs_12
  rcases List.mem_cons.mp hs with rfl | hs
  · exact bs_13
  rcases List.mem_cons.mp hs with rfl | hs
  · exact bs_14
  rcases List.mem_cons.mp hs with rfl | hs
  · exact bs_15
  rcases List.mem_cons.mp hs with rfl | hs
  · exact bs_16
  rcases List.mem_cons.mp hs with rfl | hs
  · exact bs_17
  rcases List.mem_cons.mp hs with rfl | hs
  · exact bs_18
  rcases List.mem_cons.mp hs with rfl | hs
  · exact bs_19
  rcases List.mem_cons.mp hs with rfl | hs
  · exact bs_20
  rcases List.mem_cons.mp hs with rfl | hs
  · exact bs_21
  rcases List.mem_cons.mp hs with rfl | hs
  · exact bs_22
  rcases List.mem_cons.mp hs with rfl | hs
  · exact bs_23
  rcases List.mem_cons.mp hs with rfl | hs
  · exact bs_24
  rcases List.mem_cons.mp hs with rfl | hs
  · exact bs_25
  rcases List.mem_cons.mp hs with rfl | hs
  · exact bs_26
  rcases List.mem_cons.mp hs with rfl | hs
  · exact bs_27
  rcases List.mem_cons.mp hs with rfl | hs
  · exact bs_28
  rcases List.mem_cons.mp hs with rfl | hs
  · exact bs_29
  rcases List.mem_cons.mp hs with rfl | hs
  · exact bs_30
  rcases List.mem_cons.mp hs with rfl | hs
  · exact bs_31
  rcases List.mem_cons.mp hs with rfl | hs
  · exact bs_32
  rcases List.mem_cons.mp hs with rfl | hs
  · exact bs_33
  rcases List.mem_cons.mp hs with rfl | hs
  · exact bs_34
  rcases List.mem_cons.mp hs with rfl | hs
  · exact bs_35
  rcases List.mem_cons.mp hs with rfl | hs
  · exact bs_36
  rcases List.mem_cons.mp hs with rfl | hs
  · exact bs_37
  rcases List.mem_cons.mp hs with rfl | hs
  · exact bs_38
  rcases List.mem_cons.mp hs with rfl | hs
  · exact bs_39
  rcases List.mem_cons.mp hs with rfl | hs
  · exact bs_40
  rcases List.mem_cons.mp hs with rfl | hs
  · exact bs_41
  rcases List.mem_cons.mp hs with rfl | hs
  · exact bs_42
  rcases List.mem_cons.mp hs with rfl | hs
  · exact bs_43
  rcases List.mem_cons.mp hs with rfl | hs
  · exact bs_44
  rcases List.mem_cons.mp hs with rfl | hs
  · exact bs_45
  rcases List.mem_cons.mp hs with rfl | hs
  · exact bs_46
  rcases List.mem_cons.mp hs with rfl | hs
  · exact bs_47
  rcases List.mem_cons.mp hs with rfl | hs
  · exact bs_48
  rcases List.mem_cons.mp hs with rfl | hs
  · exact bs_49
  rcases List.mem_cons.mp hs with rfl | hs
  · exact bs_50
  rcases List.mem_cons.mp hs with rfl | hs
  · exact bs_51
  rcases List.mem_cons.mp hs with rfl | hs
  · exact bs_52
  rcases List.mem_cons.mp hs with rfl | hs
  · exact bs_53
  rcases List.mem_cons.mp hs with rfl | hs
  · exact bs_54
  cases hs
end Mt

namespace Mt
open PySem PySem.Spec PyProof.Rows L2 TD Dn
theorem row_0 : chkRow (shapeP 4 2 2) = true := by decide +kernel
theorem row_1 : chkRow (shapeP 0 2 2) = true := by decide +kernel
theorem row_2 : chkRow (shapeP 0 2 3) = true := by decide +kernel
theorem row_3 : chkRow (shapeP 0 2 4) = true := by decide +kernel
theorem row_4 : chkRow (shapeP 0 3 2) = true := by decide +kernel
theorem row_5 : chkRow (shapeP 0 3 3) = true := by decide +kernel
theorem row_6 : chkRow (shapeP 0 3 4) = true := by decide +kernel
theorem row_7 : chkRow (shapeP 0 4 2) = true := by decide +kernel
theorem row_8 : chkRow (shapeP 0 4 3) = true := by decide +kernel
theorem row_9 : chkRow (shapeP 0 4 4) = true := by decide +kernel
theorem row_10 : chkRow (shapeP 2 2 2) = true := by decide +kernel
theorem row_11 : chkRow (shapeP 2 2 3) = true := by decide +kernel
theorem row_12 : chkRow (shapeP 2 2 4) = true := by decide +kernel
theorem row_13 : chkRow (shapeP 2 3 2) = true := by decide +kernel
theorem row_14 : chkRow (shapeP 2 3 3) = true := by decide +kernel
theorem row_15 : chkRow (shapeP 2 3 4) = true := by decide +kernel
theorem row_16 : chkRow (shapeP 2 4 2) = true := by decide +kernel
theorem row_17 : chkRow (shapeP 2 4 3) = true := by decide +kernel
theorem row_18 : chkRow (shapeP 2 4 4) = true := by decide +kernel
theorem row_19 : chkRow (shapeP 3 2 2) = true := by decide +kernel
theorem row_20 : chkRow (shapeP 3 2 3) = true := by decide +kernel
theorem row_21 : chkRow (shapeP 3 2 4) = true := by decide +kernel
theorem row_22 : chkRow (shapeP 3 3 2) = true := by decide +kernel
theorem row_23 : chkRow (shapeP 3 3 3) = true := by decide +kernel
theorem row_24 : chkRow (shapeP 3 3 4) = true := by decide +kernel
theorem row_25 : chkRow (shapeP 3 4 2) = true := by decide +kernel
theorem row_26 : chkRow (shapeP 3 4 3) = true := by decide +kernel
theorem row_27 : chkRow (shapeP 3 4 4) = true := by decide +kernel
theorem row_28 : chkRow (shapeP 5 2 2) = true := by decide +kernel
theorem row_29 : chkRow (shapeP 5 2 3) = true := by decide +kernel
theorem row_30 : chkRow (shapeP 5 2 4) = true := by decide +kernel
theorem row_31 : chkRow (shapeP 5 3 2) = true := by decide +kernel
theorem row_32 : chkRow (shapeP 5 3 3) = true := by decide +kernel
theorem row_33 : chkRow (shapeP 5 3 4) = true := by decide +kernel
theorem row_34 : chkRow (shapeP 5 4 2) = true := by decide +kernel
theorem row_35 : chkRow (shapeP 5 4 3) = true := by decide +kernel
theorem row_36 : chkRow (shapeP 5 4 4) = true := by decide +kernel
theorem row_37 : chkRow (shapeP 6 2 2) = true := by decide +kernel
theorem row_38 : chkRow (shapeP 6 2 3) = true := by decide +kernel
theorem row_39 : chkRow (shapeP 6 2 4) = true := by decide +kernel
theorem row_40 : chkRow (shapeP 6 3 2) = true := by decide +kernel
theorem row_41 : chkRow (shapeP 6 3 3) = true := by decide +kernel
theorem row_42 : chkRow (shapeP 6 3 4) = true := by decide +kernel
theorem row_43 : chkRow (shapeP 6 4 2) = true := by decide +kernel
theorem row_44 : chkRow (shapeP 6 4 3) = true := by decide +kernel
theorem row_45 : chkRow (shapeP 6 4 4) = true := by decide +kernel
theorem row_46 : chkRow (shapeP 7 2 2) = true := by decide +kernel
theorem row_47 : chkRow (shapeP 7 2 3) = true := by decide +kernel
theorem row_48 : chkRow (shapeP 7 2 4) = true := by decide +kernel
theorem row_49 : chkRow (shapeP 7 3 2) = true := by decide +kernel
theorem row_50 : chkRow (shapeP 7 3 3) = true := by decide +kernel
theorem row_51 : chkRow (shapeP 7 3 4) = true := by decide +kernel
theorem row_52 : chkRow (shapeP 7 4 2) = true := by decide +kernel
theorem row_53 : chkRow (shapeP 7 4 3) = true := by decide +kernel
theorem row_54 : chkRow (shapeP 7 4 4) = true := by decide +kernel
theorem row_all : ∀ s ∈ shapesL, chkRow s = true := by
  have e : shapesL = [shapeP 4 2 2, shapeP 0 2 2, shapeP 0 2 3, shapeP 0 2 4, shapeP 0 3 2, shapeP 0 3 3, shapeP 0 3 4, shapeP 0 4 2, shapeP 0 4 3, shapeP 0 4 4, shapeP 2 2 2, shapeP 2 2 3, shapeP 2 2 4, shapeP 2 3 2, shapeP 2 3 3, shapeP 2 3 4, shapeP 2 4 2, shapeP 2 4 3, shapeP 2 4 4, shapeP 3 2 2, shapeP 3 2 3, shapeP 3 2 4, shapeP 3 3 2, shapeP 3 3 3, shapeP 3 3 4, shapeP 3 4 2, shapeP 3 4 3, shapeP 3 4 4, shapeP 5 2 2, shapeP 5 2 3, shapeP 5 2 4, shapeP 5 3 2, shapeP 5 3 3, shapeP 5 3 4, shapeP 5 4 2, shapeP 5 4 3, shapeP 5 4 4, shapeP 6 2 2, shapeP 6 2 3, shapeP 6 2 4, shapeP 6 3 2, shapeP 6 3 3, shapeP 6 3 4, shapeP 6 4 2, shapeP 6 4 3, shapeP 6 4 4, shapeP 7 2 2, shapeP 7 2 3, shapeP 7 2 4, shapeP 7 3 2, shapeP 7 3 3, shapeP 7 3 4, shapeP 7 4 2, shapeP 7 4 3, shapeP 7 4 4] := rfl
  rw [e]
  intro s hs
  rcases List.mem_cons.mp hs with rfl | hs
  · exact row_0
  rcases List.mem_cons.mp hs with rfl | hs
  · exact row_1
  rcases List.mem_cons.mp hs with rfl | hs
  · exact row_2
  rcases List.mem_cons.mp hs with rfl | hs
  · exact row_3
  rcases List.mem_cons.mp hs with rfl | hs
  · exact row_4
  rcases List.mem_cons.mp hs with rfl | hs
  · exact row_5
  rcases List.mem_cons.mp hs with rfl | hs
  · exact row_6
  rcases List.mem_cons.mp hs with rfl | hs
  · exact row_7
  rcases List.mem_cons.mp hs with rfl | hs
  · exact row_8
  rcases List.mem_cons.mp hs with rfl | hs
  · exact row_9
  rcases List.mem_cons.mp hs with rfl | hs
  · exact row_10
  rcases List.mem_cons.mp hs with rfl | hs
  · exact row_11
  rcases List.mem_cons.mp hs with rfl | hs
  · exact row_12
  rcases List.mem_cons.mp hs with rfl | hs
  · exact row_13
  rcases List.mem_cons.mp hs with rfl | hs
  · exact row_14
  rcases List.mem_cons.mp hs with rfl | hs
  · exact row_15
  rcases List.mem_cons.mp hs with rfl | hs
  · exact row_16
  rcases List.mem_cons.mp hs with rfl | hs
  · exact row_17
  rcases List.mem_cons.mp hs with rfl | hs
  · exact row_18
  rcases List.mem_cons.mp hs with rfl | hs
  · exact row_19
  rcases List.mem_cons.mp hs with rfl | hs
  · exact row_20
  rcases List.mem_cons.mp hs with rfl | hs
  · exact row_21
  rcases List.mem_cons.mp hs with rfl | hs
  · exact row_22
  rcases List.mem_cons.mp hs with rfl | hs
  · exact row_23
  rcases List.mem_cons.mp hs with rfl | hs
  · exact row_24
  rcases List.mem_cons.mp hs with rfl | hs
  · exact row_25
  rcases List.mem_cons.mp hs with rfl | hs
  · exact row_26
  rcases List.mem_cons.mp hs with rfl | hs
  · exact row_27
  rcases List.mem_cons.mp hs with rfl | hs
  · exact row_28
  rcases List.mem_cons.mp hs with rfl | hs
  · exact row_29
  rcases List.mem_cons.mp hs with rfl | hs
  · exact row_30
  rcases List.mem_cons.mp hs with rfl | hs
  · exact row_31
  rcases List.mem_cons.mp hs with rfl | hs
  · exact row_32
  rcases List.mem_cons.mp hs with rfl | hs
  · exact row_33
  rcases List.mem_cons.mp hs with rfl | hs
  · exact row_34
  rcases List.mem_cons.mp hs with rfl | hs
  · exact row_35
  rcases List.mem_cons.mp hs with rfl | hs
  · exact row_36
  rcases List.mem_cons.mp hs with rfl | hs
  · exact row_37
  rcases List.mem_cons.mp hs with rfl | hs
  · exact row_38
  rcases List.mem_cons.mp hs with rfl | hs
  · exact row_39
  rcases List.mem_cons.mp hs with rfl | hs
  · exact row_40
  rcases List.mem_cons.mp hs with rfl | hs
  · exact row_41
  rcases List.mem_cons.mp hs with rfl | hs
  · exact row_42
  rcases List.mem_cons.mp hs with rfl | hs
  · exact row_43
  rcases List.mem_cons.mp hs with rfl | hs
  · exact row_44
  rcases List.mem_cons.mp hs with rfl | hs
  · exact row_45
  rcases List.mem_cons.mp hs with rfl | hs
  · exact row_46
  rcases List.mem_cons.mp hs with rfl | hs
  · exact row_47
  rcases List.mem_cons.mp hs with rfl | hs
  · exact row_48
  rcases List.mem_cons.mp hs with rfl | hs
  · exact row_49
  rcases List.mem_cons.mp hs with rfl | hs
  · exact row_50
  rcases List.mem_cons.mp hs with rfl | hs
  · exact row_51
  rcases List.mem_cons.mp hs with rfl | hs
  · exact row_52
  rcases List.mem_cons.mp hs with rfl | hs
  · exact row_53
  rcases List.mem_cons.mp hs with rfl | hs
  · exact row_54
  cases hs
end Mt

namespace Mt
open PySem PySem.Spec PyProof.Rows L2 TD Dn
def isTru : R D → Bool | .ok (.bool true) => true | _ => false
theorem isTru_eq {r : R D} (h : isTru r = true) : r = .ok (.bool true) := by
  unfold isTru at h
  split at h
  · rfl
  · cases h
theorem seq_congr {t : EnvS → R Bool} {f : EnvS → R D} {k1 k2 : EnvS → Out} {ρ : EnvS} (h : k1 ρ = k2 ρ) : sqO (ifO t (rtO f) nxO) k1 ρ = sqO (ifO t (rtO f) nxO) k2 ρ := by
  rw [sqO_ap, sqO_ap, ifO_ap]
  cases t ρ with
  | ok b =>
    cases b with
    | true =>
      rw [ifK_t, rtO_ap]
      cases f ρ <;> rfl
    | false => rw [ifK_f, nxO_ap, Out.nx_seq, Out.nx_seq, h]
  | ex x => rfl
  | no => rfl
theorem if_keep {t t' : EnvS → R Bool} {f : EnvS → R D} {k : EnvS → Out} {ρ : EnvS} (h : t ρ = t' ρ) : sqO (ifO t (rtO f) nxO) k ρ = sqO (ifO t' (rtO f) nxO) k ρ := by
  rw [sqO_ap, sqO_ap, ifO_ap, ifO_ap, h]
theorem lf_eq {ps : List Pt} (h0 : ps ≠ []) : v__law_fault [shD ps] = vLF [shD ps] := by
  have e : ∀ ρ : EnvS, ρ = argS 7 [shD ps] → asF (bin2 neD (bin2 ixD (varD 0) (cD (.int 0))) (ixL (srtT (varD 0)) (cD (.int 0)))) ρ = asF (bin2 neD (bin2 ixD (varD 0) (cD (.int 0))) (un1 minPD (varD 0))) ρ := by
    intro ρ hρ
    subst hρ
    have h1 : ixL (srtT (varD 0)) (cD (.int 0)) (argS 7 [shD ps]) = un1 minPD (varD 0) (argS 7 [shD ps]) := by
      obtain ⟨h, t, t', e1, e2⟩ := sort_head h0
      obtain ⟨m, e3, e4⟩ := minIx_min h0
      have := isMin_uniq (min_sortP e1) e4
      subst this
      have a1 : srtT (varD 0) (argS 7 [shD ps]) = .ok ((sortP ps).map prD2) := by
        show (match pairsOf (ps.map prD2) with
          | some ps => R.ok ((sortP ps).map prD2)
          | none => .no) = _
        rw [pairsOf_map]
      have a2 : un1 minPD (varD 0) (argS 7 [shD ps]) = .ok (prD2 h) := by
        show minPD (.tuple (ps.map prD2)) = _
        unfold minPD
        dsimp only
        rw [pairsOf_map]
        dsimp only
        rw [e3]
      rw [a2, ixL_ap, a1, e1]
      rfl
    show asB (k2 neD _ (ixL (srtT (varD 0)) (cD (.int 0)) (argS 7 [shD ps]))) = asB (k2 neD _ (un1 minPD (varD 0) (argS 7 [shD ps])))
    rw [h1]
  unfold v__law_fault vLF
  rw [fnR_ap, fnR_ap]
  unfold b__law_fault bLF
  refine congrArg fnK ?_
  refine seq_congr ?_
  refine seq_congr ?_
  exact if_keep (e _ rfl)
theorem lfV_eq (b : D) : v__law_fault [b] = lfV b := by
  unfold lfV
  split
  · rename_i ds
    split
    · rfl
    · rename_i ps h1 h2
      have := pairsOf_some h2
      subst this
      exact lf_eq h1
    · rfl
  · rfl
theorem One.lf' {ps : List Pt} (h : One ps) : v__law_fault [shD ps] = .ok .none := by
  rw [lf_eq (fun z => by have := h.l3; rw [z] at this; cases this.1)]
  exact h.lf
structure Bent (b : D) : Prop where
  ne : k2 neD (v_shape_fault [b]) (v__law_fault [b]) = .ok (.bool false)
  e : (v_shape_fault [b] = .ok .none ∧ v__law_fault [b] = .ok .none ∧ ∃ ps, b = shD ps ∧ Good ps) ∨ (∃ t u, v_shape_fault [b] = .ok (.tuple t) ∧ v__law_fault [b] = .ok (.tuple u))
theorem isTu_eq {r : R D} (h : isTu r = true) : ∃ t, r = .ok (.tuple t) := by
  unfold isTu at h
  split at h
  · exact ⟨_, rfl⟩
  · cases h
theorem goodD_eq {d : D} (h : goodD d = true) : ∃ ps, d = shD ps ∧ Good ps := by
  unfold goodD at h
  split at h
  · split at h
    · rename_i ps e
      exact ⟨ps, by rw [pairsOf_some e], good_of h⟩
    · cases h
  · cases h
theorem bent_of {b : D} (h : chkB b = true) : Bent b := by
  unfold chkB at h
  rw [Bool.and_eq_true, Bool.or_eq_true, Bool.and_eq_true, Bool.and_eq_true, Bool.and_eq_true] at h
  obtain ⟨h1, h2⟩ := h
  refine ⟨by rw [lfV_eq]; exact isFls_eq h1, ?_⟩
  rcases h2 with ⟨a1, a2, a3⟩ | ⟨a1, a2⟩
  · exact .inl ⟨isNone_eq a1, by rw [lfV_eq]; exact isNone_eq a2, goodD_eq a3⟩
  · obtain ⟨t, e1⟩ := isTu_eq a1
    obtain ⟨u, e2⟩ := isTu_eq a2
    exact .inr ⟨t, u, e1, by rw [lfV_eq]; exact e2⟩
theorem check_ok {d : D} (h : v_shape_fault [d] = .ok .none) : v_check_shape [d] = .ok .none := by
  show fnK (b_check_shape [some (.pu d)]) = _
  unfold b_check_shape
  rw [ifO_ap, asF_ap, bin2_ap, callU_ap, consA_ap, varD_zero, nilA_ap, cnK_ok, cuK_1, h]
  rfl
theorem check_bad {d : D} {t : List D} (h : v_shape_fault [d] = .ok (.tuple t)) : v_check_shape [d] = .ex "BadShape" := by
  show fnK (b_check_shape [some (.pu d)]) = _
  unfold b_check_shape
  rw [ifO_ap, asF_ap, bin2_ap, callU_ap, consA_ap, varD_zero, nilA_ap, cnK_ok, cuK_1, h]
  rfl
theorem ex_ok {f : EnvS → R D} {ρ : EnvS} {d : D} {k : EnvS → Out} (h : f ρ = .ok d) : sqO (exO f) k ρ = k ρ := by rw [sqO_ap, exO_ap, h, exK_ok, Out.nx_seq]
theorem ex_bad {f : EnvS → R D} {ρ : EnvS} {x : Str} {k : EnvS → Out} (h : f ρ = .ex x) : sqO (exO f) k ρ = .ex x ρ := by rw [sqO_ap, exO_ap, h, exK_ex]; rfl
theorem cu1 {F : List D → R D} {f : EnvS → R D} {ρ : EnvS} {d : D} (h : f ρ = .ok d) : callU 1 F (consA f nilA) ρ = F [d] := by rw [callU_ap, consA_ap, h, nilA_ap, cnK_ok, cuK_1]
theorem cu2 {F : List D → R D} {f g : EnvS → R D} {ρ : EnvS} {d e : D} (h : f ρ = .ok d) (h2 : g ρ = .ok e) : callU 2 F (consA f (consA g nilA)) ρ = F [d, e] := by rw [callU_ap, consA_ap, h, consA_ap, h2, nilA_ap, cnK_ok, cnK_ok, cuK_2]
theorem cu3 {F : List D → R D} {f g k : EnvS → R D} {ρ : EnvS} {d e c : D} (h : f ρ = .ok d) (h2 : g ρ = .ok e) (h3 : k ρ = .ok c) : callU 3 F (consA f (consA g (consA k nilA))) ρ = F [d, e, c] := by rw [callU_ap, consA_ap, h, consA_ap, h2, consA_ap, h3, nilA_ap, cnK_ok, cnK_ok, cnK_ok, cuK_3]
theorem sidesof_ok {ps : List Pt} (h : v_shape_fault [shD ps] = .ok .none) (g : Good ps) : v_sides_of [shD ps] = .ok (.tuple ((sidesP ps).map sdD)) := by
  show fnK (b_sides_of [some (.pu (shD ps))]) = _
  unfold b_sides_of
  rw [ex_ok ((cu1 (d := shD ps) rfl).trans (check_ok h)), rtO_ap, cu1 (d := shD ps) rfl, sides_eq g.nr g.l2 g.adj]
  rfl
theorem sidesof_bad {d : D} {t : List D} (h : v_shape_fault [d] = .ok (.tuple t)) : v_sides_of [d] = .ex "BadShape" := by
  show fnK (b_sides_of [some (.pu d)]) = _
  unfold b_sides_of
  rw [ex_bad ((cu1 (d := d) rfl).trans (check_bad h))]
  rfl
theorem err0_ok {b s : D} (h : v_sides_of [b] = .ok s) : v__law_error [.int 0, b, .none] = .ok (.str "none") := by
  show fnK (b__law_error [some (.pu (.int 0)), some (.pu b), some (.pu .none)]) = _
  unfold b__law_error
  rw [sqO_ap, tryO_ap, ifO_ap, asF_ap, bin2_ap, varD_zero, cD_ap, k2_ok, eqD_int, asB_ok]
  rw [show decide ((0 : Int) = 0) = true from rfl, ifK_t, exO_ap, cu1 (d := b) rfl, h]
  rfl
theorem err0_bad {b : D} (h : v_sides_of [b] = .ex "BadShape") : v__law_error [.int 0, b, .none] = .ok (.str "shape") := by
  show fnK (b__law_error [some (.pu (.int 0)), some (.pu b), some (.pu .none)]) = _
  unfold b__law_error
  rw [sqO_ap, tryO_ap, ifO_ap, asF_ap, bin2_ap, varD_zero, cD_ap, k2_ok, eqD_int, asB_ok]
  rw [show decide ((0 : Int) = 0) = true from rfl, ifK_t, exO_ap, cu1 (d := b) rfl, h, exK_ex, tryK_ex]
  rw [hdO, if_pos (by decide +kernel), if_pos rfl]
  rfl
theorem txt_ns : eqD (.str "none") (.str "shape") = .ok (.bool false) := isFls_eq (by decide +kernel)
theorem txt_ss : eqD (.str "shape") (.str "shape") = .ok (.bool true) := isTru_eq (by decide +kernel)
theorem ne_bool (a : Bool) : neD (.bool a) (.bool a) = .ok (.bool false) := by cases a <;> exact isFls_eq (by decide +kernel)
theorem bent_err {b : D} (h : Bent b) : ∃ e g, v__law_error [.int 0, b, .none] = .ok e ∧ v__law_fault [b] = .ok g ∧ k2 neD (eqD e (.str "shape")) (notND g .none) = .ok (.bool false) := by
  rcases h.e with ⟨h1, h2, ps, rfl, g⟩ | ⟨t, u, h1, h2⟩
  · exact ⟨_, _, err0_ok (sidesof_ok h1 g), h2, by rw [txt_ns]; exact ne_bool false⟩
  · exact ⟨_, _, err0_bad (sidesof_bad h1), h2, by rw [txt_ss]; exact ne_bool true⟩
/-! ### the shapes that the law draws -/
theorem shape_in : ∀ (k : Fin 8) (w h : Fin 3), shapeP (k.val : Int) (2 + (w.val : Int)) (2 + (h.val : Int)) ∈ shapesL := by decide +kernel
theorem shape_in' {k w h : Int} (hk : 0 ≤ k ∧ k < 8) (hw : 0 ≤ w ∧ w < 3) (hh : 0 ≤ h ∧ h < 3) : shapeP k (2 + w) (2 + h) ∈ shapesL := by
  obtain ⟨a, rfl⟩ := Int.eq_ofNat_of_zero_le hk.1
  obtain ⟨b, rfl⟩ := Int.eq_ofNat_of_zero_le hw.1
  obtain ⟨c, rfl⟩ := Int.eq_ofNat_of_zero_le hh.1
  exact shape_in ⟨a, by omega⟩ ⟨b, by omega⟩ ⟨c, by omega⟩
theorem shape_ks {d0 d1 d2 : Int} {rest : List Int} : v__law_shape [.list ((d0 :: d1 :: d2 :: rest).map .int)] = .ok (shD (shapeP (d0 % 8) (2 + d1 % 3) (2 + d2 % 3))) := by
  have h0 : 0 ≤ d0 % 8 := Int.emod_nonneg _ (by omega)
  have h1 : d0 % 8 < 8 := Int.emod_lt_of_pos _ (by omega)
  show fnK (b__law_shape [some (.pu (.list ((d0 :: d1 :: d2 :: rest).map .int))), none, none, none]) = _
  unfold b__law_shape
  have e : par3O 1 2 3 (consA (bin2 modD (callF intG (consA (bin2 ixD (varD 0) (cD (.int 0))) nilA)) (cD (.int 8))) (consA (bin2 addD (cD (.int 2)) (bin2 modD (callF intG (consA (bin2 ixD (varD 0) (cD (.int 1))) nilA)) (cD (.int 3)))) (consA (bin2 addD (cD (.int 2)) (bin2 modD (callF intG (consA (bin2 ixD (varD 0) (cD (.int 2))) nilA)) (cD (.int 3)))) nilA))) [some (.pu (.list ((d0 :: d1 :: d2 :: rest).map .int))), none, none, none] = .nx [some (.pu (.list ((d0 :: d1 :: d2 :: rest).map .int))), some (.pu (.int (d0 % 8))), some (.pu (.int (2 + d1 % 3))), some (.pu (.int (2 + d2 % 3)))] := by
    have i2 : ixD (.list ((d0 :: d1 :: d2 :: rest).map .int)) (.int 2) = .ok (.int d2) := rfl
    have i1 : ixD (.list ((d0 :: d1 :: d2 :: rest).map .int)) (.int 1) = .ok (.int d1) := rfl
    have i0 : ixD (.list ((d0 :: d1 :: d2 :: rest).map .int)) (.int 0) = .ok (.int d0) := rfl
    simp only [par3O_ap, consA_ap, bin2_ap, callF_ap, varD_zero, cD_ap, k2_ok, i0, i1, i2, nilA_ap, cnK_ok, R.ok_bind, intG_int, modK 8 (by omega), modK 3 (by omega), addD_int, par3K_ok, List.set]
  rw [sq_nx e]
  generalize d0 % 8 = k at *
  generalize 2 + d1 % 3 = w
  generalize 2 + d2 % 3 = h
  have hk : k = 0 ∨ k = 1 ∨ k = 2 ∨ k = 3 ∨ k = 4 ∨ k = 5 ∨ k = 6 ∨ k = 7 := by omega
  rcases hk with rfl | rfl | rfl | rfl | rfl | rfl | rfl | rfl <;> rfl
end Mt

namespace Mt
open PySem PySem.Spec PyProof.Rows L2 TD Dn
/-! ### where a point lies: plain numbers -/
theorem den_mul (p : Rat) : p * ((p.den : Int) : Rat) = (p.num : Rat) := by
  have h := Rat.num_divInt_den p
  rw [Rat.divInt_eq_div] at h
  have hd : ((p.den : Int) : Rat) ≠ 0 := by
    intro z
    have : ((p.den : Int) : Rat) = ((0 : Int) : Rat) := z
    have := Rat.intCast_inj.mp this
    have := p.den_pos
    omega
  generalize ((p.den : Int) : Rat) = d at *
  rw [← h, Rat.div_mul_cancel hd, h]
theorem area_eq (p q : Rat) (a1 a2 b1 b2 n1 n2 g : Int) (h1 : b2 - a2 = n1 * g) (h2 : b1 - a1 = - (n2 * g)) :
  (((b1 - a1) * (q.num * p.den - a2 * (p.den * q.den)) - (b2 - a2) * (p.num * q.den - a1 * (p.den * q.den)) : Int) : Rat) = - ((p.den : Int) * (q.den : Int) * (g : Int) : Rat) * ((n1 : Rat) * p + (n2 : Rat) * q - ((n1 * a1 + n2 * a2 : Int) : Rat)) := by
  rw [h1, h2]
  have hp := den_mul p
  have hq := den_mul q
  simp only [Rat.intCast_sub, Rat.intCast_mul, Rat.intCast_neg, Rat.intCast_add]
  rw [← hp, ← hq]
  generalize ((p.den : Int) : Rat) = P
  generalize ((q.den : Int) : Rat) = Q
  grind
theorem area_sg (p q : Rat) (a1 a2 b1 b2 n1 n2 g : Int) (h1 : b2 - a2 = n1 * g) (h2 : b1 - a1 = - (n2 * g)) (hg : 0 < g) (A : Int)
   (hA : A = (b1 - a1) * (q.num * p.den - a2 * (p.den * q.den)) - (b2 - a2) * (p.num * q.den - a1 * (p.den * q.den))) :
   (A < 0 ↔ ((n1 * a1 + n2 * a2 : Int) : Rat) < (n1 : Rat) * p + (n2 : Rat) * q) ∧ (A = 0 ↔ (n1 : Rat) * p + (n2 : Rat) * q = ((n1 * a1 + n2 * a2 : Int) : Rat)) := by
  have k := area_eq p q a1 a2 b1 b2 n1 n2 g h1 h2
  rw [← hA] at k
  generalize ((n1 * a1 + n2 * a2 : Int) : Rat) = h at *
  generalize (n1 : Rat) * p + (n2 : Rat) * q = d at *
  have hc : (0 : Rat) < ((p.den : Int) * (q.den : Int) * (g : Int) : Rat) := by
    have h1 : (0 : Rat) < ((p.den : Int) : Rat) := Rat.intCast_pos.mpr (by have := p.den_pos; omega)
    have h2 : (0 : Rat) < ((q.den : Int) : Rat) := Rat.intCast_pos.mpr (by have := q.den_pos; omega)
    have h3 : (0 : Rat) < (g : Rat) := Rat.intCast_pos.mpr hg
    exact Rat.mul_pos (Rat.mul_pos h1 h2) h3
  generalize (((p.den : Int) : Rat) * ((q.den : Int) : Rat) * (g : Rat)) = c at *
  have e0 : A < 0 ↔ (A : Rat) < 0 := by
    rw [show (0 : Rat) = ((0 : Int) : Rat) from rfl, Rat.intCast_lt_intCast]
  have e1 : A = 0 ↔ (A : Rat) = 0 := by
    rw [show (0 : Rat) = ((0 : Int) : Rat) from rfl, Rat.intCast_inj]
  rw [e0, e1, k]
  have hcd : ∀ x : Rat, 0 < x → 0 < c * x := fun x hx => Rat.mul_pos hc hx
  constructor
  · constructor
    · intro z
      apply Rat.not_le.mp
      intro hle
      have h3 : d - h ≤ 0 := by grind
      have : 0 ≤ c * (h - d) := Rat.mul_nonneg (Rat.le_of_lt hc) (by grind)
      grind
    · intro z
      have := hcd (d - h) (by grind)
      grind
  · constructor
    · intro z
      have hne : c ≠ 0 := by intro e; rw [e] at hc; exact absurd hc (by decide)
      have z2 : c * (d - h) = 0 := by grind
      rcases Rat.mul_eq_zero.mp z2 with e | e
      · exact absurd e hne
      · grind
    · intro z
      rw [z]
      grind
inductive Wh where
  | wi | wo | wu
deriving DecidableEq
def whD : Wh → D
  | .wi => .str "in"
  | .wo => .str "on"
  | .wu => .str "out"
def whP {α : Type} (c : α → Int) : List α → Wh → Wh
  | [], f => f
  | a :: r, f => if 0 < c a then .wu else if c a = 0 then whP c r .wo else whP c r f
def stepW (c : Int) (f : Wh) : Wh := if c < 0 ∨ f = .wu then .wu else if c = 0 then .wo else f
def whL {α : Type} (c : α → Int) : List α → Wh → Wh
  | [], f => f
  | a :: r, f => whL c r (stepW (c a) f)
theorem whL_out {α : Type} (c : α → Int) : ∀ l : List α, whL c l .wu = .wu
  | [] => rfl
  | a :: r => by
    unfold whL
    rw [show stepW (c a) .wu = .wu from if_pos (.inr rfl)]
    exact whL_out c r
theorem wh_same {α : Type} {cP cL : α → Int} : ∀ (l : List α) (f : Wh), f ≠ .wu → (∀ a ∈ l, (cL a < 0 ↔ 0 < cP a) ∧ (cL a = 0 ↔ cP a = 0)) → whL cL l f = whP cP l f
  | [], _, _, _ => rfl
  | a :: r, f, hf, h => by
    have h1 := h a List.mem_cons_self
    have hr : ∀ b ∈ r, _ := fun b hb => h b (List.mem_cons_of_mem _ hb)
    unfold whL whP
    by_cases e1 : 0 < cP a
    · rw [if_pos e1, show stepW (cL a) f = .wu from if_pos (.inl (h1.1.mpr e1))]
      exact whL_out cL r
    · rw [if_neg e1]
      have n1 : ¬ (cL a < 0 ∨ f = .wu) := fun z => z.elim (fun z => e1 (h1.1.mp z)) hf
      by_cases e2 : cP a = 0
      · rw [if_pos e2, show stepW (cL a) f = .wo by unfold stepW; rw [if_neg n1, if_pos (h1.2.mpr e2)]]
        exact wh_same r .wo (fun z => by cases z) hr
      · rw [if_neg e2, show stepW (cL a) f = f by unfold stepW; rw [if_neg n1, if_neg (fun z => e2 (h1.2.mp z))]]
        exact wh_same r f hf hr
theorem whP_map {α β : Type} {c : β → Int} {g : α → β} : ∀ (l : List α) (f : Wh), whP c (l.map g) f = whP (fun a => c (g a)) l f
  | [], _ => rfl
  | a :: r, f => by
    rw [List.map_cons]
    unfold whP
    rw [whP_map r .wo, whP_map r f]
theorem wh_isout (f : Wh) : eqD (whD f) (.str "out") = .ok (.bool (decide (f = .wu))) := by
  cases f with
  | wi => exact isFls_eq (by decide +kernel)
  | wo => exact isFls_eq (by decide +kernel)
  | wu => exact isTru_eq (by decide +kernel)
theorem wh_ne (f : Wh) : neD (whD f) (whD f) = .ok (.bool false) := by
  cases f <;> exact isFls_eq (by decide +kernel)
/-! ### the program's way -/
abbrev ptD2 (p q : Rat) : D := .tuple [N p, N q]
theorem bd_int {a : Int} {k : Nat} (h : a.natAbs < 2 ^ k) (hk : 1 ≤ k) : Bd k (a : Rat) := ⟨h, Nat.lt_of_lt_of_le (show 1 < 2 ^ 1 by decide) (Nat.pow_le_pow_right (by decide) hk)⟩
theorem N_int (a : Int) : N (a : Rat) = .tuple [.int a, .int 1] := rfl
def dotQ (n : Pt) (p q : Rat) : Rat := (n.1 : Rat) * p + (n.2 : Rat) * q
def cP (p q : Rat) (s : Sd) : Int := sgI (ordI (dotQ s.1 p q) (s.2 : Rat))
theorem dot_eq {a b p q : Rat} {k l : Nat} (ha : Bd k a) (hb : Bd k b) (hp : Bd l p) (hq : Bd l q) (h : k + l < 3000) : v_dot_by [.tuple [N a, N b], .tuple [N p, N q]] = .ok (N (a * p + b * q)) := by
  show fnK (b_dot_by [some (.pu (.tuple [N a, N b])), some (.pu (.tuple [N p, N q]))]) = _
  unfold b_dot_by
  rw [rtO_ap, fnK_rtK]
  exact (cu2 (d := N (a * p)) (e := N (b * q)) ((cu2 (d := N a) (e := N p) rfl rfl).trans (prod_eq ha hp (by omega))) ((cu2 (d := N b) (e := N q) rfl rfl).trans (prod_eq hb hq (by omega)))).trans (sum_eq (mul_bd ha hp) (mul_bd hb hq) (by omega))
noncomputable def EO : EnvS → R D := (callU 2 v_order (consA (callU 2 v_dot_by (consA (callU 1 v_whole_way (consA (varD 3) nilA)) (consA (varD 1) nilA))) (consA (tupD (consA (varD 4) (consA (cD (.int 1)) nilA))) nilA)))
noncomputable def BW : EnvS → Out := (sqO (stO 5 EO)
  (sqO (ifO (asF (bin2 gtD (varD 5) (cD (.int 0)))) (rtO (cD (.str "out"))) nxO)
  (ifO (asF (bin2 eqD (varD 5) (cD (.int 0)))) (stO 2 (cD (.str "on"))) nxO)))
noncomputable def TGW : D → EnvS → R EnvS := (tupG 2 (consG (nmG 3) (consG (nmG 4) nilG)))
theorem where_by_eq : b_where_by = sqO (stO 2 (cD (.str "in"))) (sqO (loO (seqF (varD 0)) TGW BW) (rtO (varD 2))) := rfl
def SmS (s : Sd) : Prop := s.1.1.natAbs < 2 ^ 20 ∧ s.1.2.natAbs < 2 ^ 20 ∧ s.2.natAbs < 2 ^ 20
section
variable {p q : Rat} (hp : Bd 20 p) (hq : Bd 20 q)
include hp hq
theorem eo_eq {A F z5 : Option Sl} {s : Sd} (hs : SmS s) : EO [A, some (.pu (ptD2 p q)), F, some (.pu (prD2 s.1)), some (.pu (.int s.2)), z5] = .ok (.int (cP p q s)) := by
  have b1 := bd_int hs.1 (by decide)
  have b2 := bd_int hs.2.1 (by decide)
  have b3 := bd_int hs.2.2 (by decide)
  unfold EO
  refine (cu2 (d := N (dotQ s.1 p q)) (e := N (s.2 : Rat)) ?_ rfl).trans (order_eq (add_bd (mul_bd b1 hp) (mul_bd b2 hq)) b3 (by decide))
  exact (cu2 (d := .tuple [N (s.1.1 : Rat), N (s.1.2 : Rat)]) (e := ptD2 p q) rfl rfl).trans (dot_eq b1 b2 hp hq (by decide))
theorem where_loop {A : Option Sl} : ∀ (ks : List Sd) (f : Wh) (z3 z4 z5 : Option Sl), (∀ s ∈ ks, SmS s) → fnK ((forO TGW BW (ks.map sdD) [A, some (.pu (ptD2 p q)), some (.pu (whD f)), z3, z4, z5]).seq (rtO (varD 2))) = .ok (whD (whP (cP p q) ks f))
  | [], f, z3, z4, z5, _ => rfl
  | s :: ks, f, z3, z4, z5, h => by
    have e0 := eo_eq hp hq (A := A) (F := some (.pu (whD f))) (z5 := z5) (h s List.mem_cons_self)
    have hr : ∀ x ∈ ks, SmS x := fun x hx => h x (List.mem_cons_of_mem _ hx)
    rw [List.map_cons]
    have et : TGW (sdD s) [A, some (.pu (ptD2 p q)), some (.pu (whD f)), z3, z4, z5] = .ok [A, some (.pu (ptD2 p q)), some (.pu (whD f)), some (.pu (prD2 s.1)), some (.pu (.int s.2)), z5] := rfl
    have eb : BW [A, some (.pu (ptD2 p q)), some (.pu (whD f)), some (.pu (prD2 s.1)), some (.pu (.int s.2)), z5] = sqO (ifO (asF (bin2 gtD (varD 5) (cD (.int 0)))) (rtO (cD (.str "out"))) nxO) (ifO (asF (bin2 eqD (varD 5) (cD (.int 0)))) (stO 2 (cD (.str "on"))) nxO) [A, some (.pu (ptD2 p q)), some (.pu (whD f)), some (.pu (prD2 s.1)), some (.pu (.int s.2)), some (.pu (.int (cP p q s)))] := by
      unfold BW
      rw [sq_nx (st_nx e0)]
      rfl
    have eg : asF (bin2 gtD (varD 5) (cD (.int 0))) [A, some (.pu (ptD2 p q)), some (.pu (whD f)), some (.pu (prD2 s.1)), some (.pu (.int s.2)), some (.pu (.int (cP p q s)))] = .ok (decide (0 < cP p q s)) := rfl
    have ee : asF (bin2 eqD (varD 5) (cD (.int 0))) [A, some (.pu (ptD2 p q)), some (.pu (whD f)), some (.pu (prD2 s.1)), some (.pu (.int s.2)), some (.pu (.int (cP p q s)))] = .ok (decide (cP p q s = 0)) := by
      rw [asF_ap, bin2_ap, show varD 5 [A, some (.pu (ptD2 p q)), some (.pu (whD f)), some (.pu (prD2 s.1)), some (.pu (.int s.2)), some (.pu (.int (cP p q s)))] = .ok (.int (cP p q s)) from rfl, cD_ap, k2_ok, eqD_int, asB_ok]
    unfold whP
    by_cases h1 : 0 < cP p q s
    · rw [if_pos h1]
      rw [decide_eq_true h1] at eg
      rw [forO_rt et (eb.trans (by rw [sqO_ap, ifO_ap, eg, ifK_t]; rfl))]
      rfl
    · rw [if_neg h1]
      rw [decide_eq_false h1] at eg
      rw [sq_nx (if_skip eg)] at eb
      by_cases h2 : cP p q s = 0
      · rw [if_pos h2]
        rw [decide_eq_true h2] at ee
        rw [forO_cons et (eb.trans (by rw [ifO_ap, ee, ifK_t]; rfl))]
        exact where_loop ks .wo _ _ _ hr
      · rw [if_neg h2]
        rw [decide_eq_false h2] at ee
        rw [forO_cons et (eb.trans (if_skip ee))]
        exact where_loop ks f _ _ _ hr
theorem ispoint_ok : v_is_point [ptD2 p q] = .ok (.bool true) := by
  show fnK (b_is_point [some (.pu (ptD2 p q))]) = _
  unfold b_is_point
  simp [isiK, tyName, kit_tt, eqD_int, isnum_N]
theorem checkpt_ok : v_check_points [.tuple [ptD2 p q]] = .ok .none := by
  show fnK (b_check_points [some (.pu (.tuple [ptD2 p q])), none]) = _
  unfold b_check_points
  have e : lcF (seqF (varD 0)) (nmG 1) yesB (callU 1 v_is_point (consA (varD 1) nilA)) [1] [some (.pu (.tuple [ptD2 p q])), none] = .ok [.bool true] := by
    rw [lcF_ap, seqF_ap, varD_zero, sqK_t, lcK_ok rfl]
    exact compO_cons (ρ1 := [some (.pu (.tuple [ptD2 p q])), some (.pu (ptD2 p q))]) rfl ((cu1 (d := ptD2 p q) rfl).trans (ispoint_ok hp hq)) rfl
  rw [ifO_ap, notB_ap, asF_ap, callF_ap, e]
  rfl
theorem where_eq {ps : List Pt} (g : Good ps) (hsf : v_shape_fault [shD ps] = .ok .none) (hsm : ∀ s ∈ sidesP ps, SmS s) : v_where [shD ps, ptD2 p q] = .ok (whD (whP (cP p q) (sidesP ps) .wi)) := by
  show fnK (b_where [some (.pu (shD ps)), some (.pu (ptD2 p q))]) = _
  unfold b_where
  rw [ex_ok ((cu1 (d := shD ps) rfl).trans (check_ok hsf))]
  rw [ex_ok ((cu1 (d := .tuple [ptD2 p q]) rfl).trans (checkpt_ok hp hq))]
  rw [rtO_ap, fnK_rtK, cu2 (d := .tuple ((sidesP ps).map sdD)) (e := ptD2 p q) ((cu1 (d := shD ps) rfl).trans (sides_eq g.nr g.l2 g.adj)) rfl]
  show fnK (b_where_by [some (.pu (.tuple ((sidesP ps).map sdD))), some (.pu (ptD2 p q)), none, none, none, none]) = _
  rw [where_by_eq, sq_nx (st_nx (d := whD .wi) rfl)]
  simp only [List.set]
  rw [sqO_ap, loO_ap, seqF_ap, varD_zero, sqK_t, loK_ok]
  exact where_loop hp hq (sidesP ps) .wi none none none hsm
/-! ### the law's way -/
def aQ (p q : Rat) (a b : Pt) : Int := (b.1 - a.1) * (q.num * p.den - a.2 * (p.den * q.den)) - (b.2 - a.2) * (p.num * q.den - a.1 * (p.den * q.den))
omit hp hq in
theorem nm0 {u v : Int} : ixD (.tuple [.int u, .int v]) (.int 0) = .ok (.int u) := rfl
noncomputable def EA : EnvS → R D := (bin2 subD (bin2 mulD (bin2 subD (bin2 ixD (varD 5) (cD (.int 0))) (bin2 ixD (varD 4) (cD (.int 0)))) (bin2 subD (bin2 mulD (bin2 ixD (bin2 ixD (varD 1) (cD (.int 1))) (cD (.int 0))) (bin2 ixD (bin2 ixD (varD 1) (cD (.int 0))) (cD (.int 1)))) (bin2 mulD (bin2 ixD (varD 4) (cD (.int 1))) (varD 6)))) (bin2 mulD (bin2 subD (bin2 ixD (varD 5) (cD (.int 1))) (bin2 ixD (varD 4) (cD (.int 1)))) (bin2 subD (bin2 mulD (bin2 ixD (bin2 ixD (varD 1) (cD (.int 0))) (cD (.int 0))) (bin2 ixD (bin2 ixD (varD 1) (cD (.int 1))) (cD (.int 1)))) (bin2 mulD (bin2 ixD (varD 4) (cD (.int 0))) (varD 6)))))
noncomputable def EW : EnvS → R D := (ifD (orB (asF (bin2 ltD (varD 7) (cD (.int 0)))) (asF (bin2 eqD (varD 2) (cD (.str "out"))))) (cD (.str "out")) (ifD (asF (bin2 eqD (varD 7) (cD (.int 0)))) (cD (.str "on")) (varD 2)))
noncomputable def EB : EnvS → R D := (bin2 mulD (bin2 ixD (bin2 ixD (varD 1) (cD (.int 0))) (cD (.int 1))) (bin2 ixD (bin2 ixD (varD 1) (cD (.int 1))) (cD (.int 1))))
noncomputable def BLW : EnvS → Out := (sqO (parO 4 5 (consA (bin2 ixD (varD 0) (varD 3)) (consA (bin2 ixD (varD 0) (bin2 modD (bin2 addD (varD 3) (cD (.int 1))) (callF lenK (consA (varD 0) nilA)))) nilA)))
  (sqO (stO 6 EB) (sqO (stO 7 EA) (stO 2 EW))))
theorem eb_eq {A F k z4 z5 z6 z7 : Option Sl} : EB [A, some (.pu (ptD2 p q)), F, k, z4, z5, z6, z7] = .ok (.int (p.den * q.den)) := by
  show mulD (.int p.den) (.int q.den) = _
  exact mulD_ok (dB hp) (dB hq) (by decide)
theorem ea_eq {A F k z7 : Option Sl} {a b : Pt} (ha : Nr a) (hb : Nr b) : EA [A, some (.pu (ptD2 p q)), F, k, some (.pu (prD2 a)), some (.pu (prD2 b)), some (.pu (.int (p.den * q.den))), z7] = .ok (.int (aQ p q a b)) := by
  have h1 := ha.1
  have h2 := ha.2
  have h3 := hb.1
  have h4 := hb.2
  have p6 : (2 : Nat) ^ 6 = 64 := by decide
  have p7 : (2 : Nat) ^ 7 = 128 := by decide
  have B := mul_lt (dB hp) (dB hq)
  have a1 : a.1.natAbs < 2 ^ 6 := by omega
  have a2 : a.2.natAbs < 2 ^ 6 := by omega
  have d1 : (b.1 - a.1).natAbs < 2 ^ 7 := by omega
  have d2 : (b.2 - a.2).natAbs < 2 ^ 7 := by omega
  have m1 := mul_lt hq.1 (dB hp)
  have m2 := mul_lt hp.1 (dB hq)
  have m3 := mul_lt a2 B
  have m4 := mul_lt a1 B
  have s1 := sub_lt (lt_up m1 (show 20 + 20 ≤ 6 + (20 + 20) by decide)) m3
  have s2 := sub_lt (lt_up m2 (show 20 + 20 ≤ 6 + (20 + 20) by decide)) m4
  have e1 : bin2 ixD (bin2 ixD (varD 1) (cD (.int 1))) (cD (.int 0)) [A, some (.pu (ptD2 p q)), F, k, some (.pu (prD2 a)), some (.pu (prD2 b)), some (.pu (.int (p.den * q.den))), z7] = .ok (.int q.num) := rfl
  have e2 : bin2 ixD (bin2 ixD (varD 1) (cD (.int 0))) (cD (.int 1)) [A, some (.pu (ptD2 p q)), F, k, some (.pu (prD2 a)), some (.pu (prD2 b)), some (.pu (.int (p.den * q.den))), z7] = .ok (.int p.den) := rfl
  have e3 : bin2 ixD (bin2 ixD (varD 1) (cD (.int 0))) (cD (.int 0)) [A, some (.pu (ptD2 p q)), F, k, some (.pu (prD2 a)), some (.pu (prD2 b)), some (.pu (.int (p.den * q.den))), z7] = .ok (.int p.num) := rfl
  have e4 : bin2 ixD (bin2 ixD (varD 1) (cD (.int 1))) (cD (.int 1)) [A, some (.pu (ptD2 p q)), F, k, some (.pu (prD2 a)), some (.pu (prD2 b)), some (.pu (.int (p.den * q.den))), z7] = .ok (.int q.den) := rfl
  have v4 : varD 4 [A, some (.pu (ptD2 p q)), F, k, some (.pu (prD2 a)), some (.pu (prD2 b)), some (.pu (.int (p.den * q.den))), z7] = .ok (prD2 a) := rfl
  have v5 : varD 5 [A, some (.pu (ptD2 p q)), F, k, some (.pu (prD2 a)), some (.pu (prD2 b)), some (.pu (.int (p.den * q.den))), z7] = .ok (prD2 b) := rfl
  have v6 : varD 6 [A, some (.pu (ptD2 p q)), F, k, some (.pu (prD2 a)), some (.pu (prD2 b)), some (.pu (.int (p.den * q.den))), z7] = .ok (.int (p.den * q.den)) := rfl
  unfold EA
  generalize hρ : ([A, some (.pu (ptD2 p q)), F, k, some (.pu (prD2 a)), some (.pu (prD2 b)), some (.pu (.int (p.den * q.den))), z7] : EnvS) = ρ at *
  have f1 : bin2 mulD (bin2 ixD (bin2 ixD (varD 1) (cD (.int 1))) (cD (.int 0))) (bin2 ixD (bin2 ixD (varD 1) (cD (.int 0))) (cD (.int 1))) ρ = .ok (.int (q.num * p.den)) := by
    rw [bin2_ap, e1, e2, k2_ok, mulD_ok hq.1 (dB hp) (by decide)]
  have f2 : bin2 mulD (bin2 ixD (bin2 ixD (varD 1) (cD (.int 0))) (cD (.int 0))) (bin2 ixD (bin2 ixD (varD 1) (cD (.int 1))) (cD (.int 1))) ρ = .ok (.int (p.num * q.den)) := by
    rw [bin2_ap, e3, e4, k2_ok, mulD_ok hp.1 (dB hq) (by decide)]
  have f3 : bin2 mulD (bin2 ixD (varD 4) (cD (.int 1))) (varD 6) ρ = .ok (.int (a.2 * (p.den * q.den))) := by
    rw [bin2_ap, bin2_ap, v4, v6, cD_ap, k2_ok, ixP1, k2_ok, mulD_ok a2 B (by decide)]
  have f4 : bin2 mulD (bin2 ixD (varD 4) (cD (.int 0))) (varD 6) ρ = .ok (.int (a.1 * (p.den * q.den))) := by
    rw [bin2_ap, bin2_ap, v4, v6, cD_ap, k2_ok, ixP0, k2_ok, mulD_ok a1 B (by decide)]
  have f5 : bin2 subD (bin2 ixD (varD 5) (cD (.int 0))) (bin2 ixD (varD 4) (cD (.int 0))) ρ = .ok (.int (b.1 - a.1)) := by
    rw [bin2_ap, bin2_ap, bin2_ap, v4, v5, cD_ap, k2_ok, k2_ok, ixP0, ixP0, k2_ok, subD_int]
  have f6 : bin2 subD (bin2 ixD (varD 5) (cD (.int 1))) (bin2 ixD (varD 4) (cD (.int 1))) ρ = .ok (.int (b.2 - a.2)) := by
    rw [bin2_ap, bin2_ap, bin2_ap, v4, v5, cD_ap, k2_ok, k2_ok, ixP1, ixP1, k2_ok, subD_int]
  rw [bin2_ap, bin2_ap, f5, bin2_ap, f1, f3, k2_ok, subD_int, k2_ok, mulD_ok d1 s1 (by decide), bin2_ap, f6, bin2_ap, f2, f4, k2_ok, subD_int, k2_ok, mulD_ok d2 s2 (by decide), k2_ok, subD_int]
  rfl
omit hp hq in
theorem ew_eq {A P k z4 z5 z6 : Option Sl} {f : Wh} {c : Int} : EW [A, P, some (.pu (whD f)), k, z4, z5, z6, some (.pu (.int c))] = .ok (whD (stepW c f)) := by
  have v7 : varD 7 [A, P, some (.pu (whD f)), k, z4, z5, z6, some (.pu (.int c))] = .ok (.int c) := rfl
  have v2 : varD 2 [A, P, some (.pu (whD f)), k, z4, z5, z6, some (.pu (.int c))] = .ok (whD f) := rfl
  unfold EW stepW
  rw [ifD_ap, orB_ap, asF_ap, bin2_ap, v7, cD_ap, k2_ok, ltD_int, asB_ok]
  by_cases h1 : c < 0
  · rw [decide_eq_true h1, orK_t, ifDK_t, if_pos (.inl h1)]
    rfl
  · rw [decide_eq_false h1, orK_f, asF_ap, bin2_ap, v2, cD_ap, k2_ok, wh_isout, asB_ok]
    by_cases h2 : f = .wu
    · rw [decide_eq_true h2, ifDK_t, if_pos (.inr h2)]
      rfl
    · rw [decide_eq_false h2, ifDK_f, ifD_ap, asF_ap, bin2_ap, v7, cD_ap, k2_ok, eqD_int, asB_ok, if_neg (fun z => z.elim h1 h2)]
      by_cases h3 : c = 0
      · rw [decide_eq_true h3, ifDK_t, if_pos h3]
        rfl
      · rw [decide_eq_false h3, ifDK_f, if_neg h3, v2]
def cL (p q : Rat) (ps : List Pt) (k : Nat) : Int := aQ p q (cAt ps k) (cAt ps (nxt ps k))
theorem lwhere_step {ps : List Pt} (g : Good ps) {k : Nat} (hk : k < ps.length) {f : Wh} {z4 z5 z6 z7 : Option Sl} : ∃ w4 w5 w6 w7, BLW [some (.pu (shD ps)), some (.pu (ptD2 p q)), some (.pu (whD f)), some (.pu (nD k)), z4, z5, z6, z7] = .nx [some (.pu (shD ps)), some (.pu (ptD2 p q)), some (.pu (whD (stepW (cL p q ps k) f))), some (.pu (nD k)), w4, w5, w6, w7] := by
  have hl := g.l2
  have i1 := ixT hk
  have i2 := ixT (nxt_lt hk)
  have ha := g.nr _ (cAt_mem hk)
  have hb := g.nr _ (cAt_mem (nxt_lt hk))
  unfold cL
  generalize cAt ps k = a at *
  generalize cAt ps (nxt ps k) = b at *
  refine ⟨some (.pu (prD2 a)), some (.pu (prD2 b)), some (.pu (.int (p.den * q.den))), some (.pu (.int (aQ p q a b))), ?_⟩
  have e34 : parO 4 5 (consA (bin2 ixD (varD 0) (varD 3)) (consA (bin2 ixD (varD 0) (bin2 modD (bin2 addD (varD 3) (cD (.int 1))) (callF lenK (consA (varD 0) nilA)))) nilA)) [some (.pu (shD ps)), some (.pu (ptD2 p q)), some (.pu (whD f)), some (.pu (nD k)), z4, z5, z6, z7] = .nx [some (.pu (shD ps)), some (.pu (ptD2 p q)), some (.pu (whD f)), some (.pu (nD k)), some (.pu (prD2 a)), some (.pu (prD2 b)), z6, z7] := by
    have q1 : bin2 ixD (varD 0) (varD 3) [some (.pu (shD ps)), some (.pu (ptD2 p q)), some (.pu (whD f)), some (.pu (nD k)), z4, z5, z6, z7] = .ok (prD2 a) := i1
    have q2 : bin2 ixD (varD 0) (bin2 modD (bin2 addD (varD 3) (cD (.int 1))) (callF lenK (consA (varD 0) nilA))) [some (.pu (shD ps)), some (.pu (ptD2 p q)), some (.pu (whD f)), some (.pu (nD k)), z4, z5, z6, z7] = .ok (prD2 b) := by
      rw [bin2_ap, varD_zero, bin2_ap, bin2_ap, show varD 3 [some (.pu (shD ps)), some (.pu (ptD2 p q)), some (.pu (whD f)), some (.pu (nD k)), z4, z5, z6, z7] = .ok (.int (k : Nat)) from rfl, cD_ap, k2_ok, addD_int, callF_ap, consA_ap, varD_zero, nilA_ap, cnK_ok, R.ok_bind, lenK_tuple, List.length_map, k2_ok, mod_nxt hk (by omega), k2_ok, i2]
    unfold parO
    rw [consA_ap, q1, consA_ap, q2, nilA_ap]
    rfl
  unfold BLW
  rw [sq_nx e34, sq_nx (st_nx (eb_eq hp hq))]
  simp only [List.set]
  rw [sq_nx (st_nx (ea_eq hp hq ha hb))]
  simp only [List.set]
  rw [st_nx ew_eq]
  rfl
theorem lwhere_loop {ps : List Pt} (g : Good ps) : ∀ (ks : List Nat) (f : Wh) (z3 z4 z5 z6 z7 : Option Sl), (∀ k ∈ ks, k < ps.length) → ∃ w3 w4 w5 w6 w7, forO (nmG 3) BLW (ks.map nD) [some (.pu (shD ps)), some (.pu (ptD2 p q)), some (.pu (whD f)), z3, z4, z5, z6, z7] = .nx [some (.pu (shD ps)), some (.pu (ptD2 p q)), some (.pu (whD (whL (cL p q ps) ks f))), w3, w4, w5, w6, w7]
  | [], f, z3, z4, z5, z6, z7, _ => ⟨z3, z4, z5, z6, z7, rfl⟩
  | k :: ks, f, z3, z4, z5, z6, z7, h => by
    obtain ⟨v4, v5, v6, v7, e⟩ := lwhere_step hp hq g (h k List.mem_cons_self) (f := f) (z4 := z4) (z5 := z5) (z6 := z6) (z7 := z7)
    obtain ⟨w3, w4, w5, w6, w7, e2⟩ := lwhere_loop g ks (stepW (cL p q ps k) f) (some (.pu (nD k))) v4 v5 v6 v7 (fun j hj => h j (List.mem_cons_of_mem _ hj))
    refine ⟨w3, w4, w5, w6, w7, ?_⟩
    rw [List.map_cons, forO_cons (ρ1 := [some (.pu (shD ps)), some (.pu (ptD2 p q)), some (.pu (whD f)), some (.pu (nD k)), z4, z5, z6, z7]) rfl e]
    exact e2
omit hp hq in
theorem lwhere_eq' : b__law_where = sqO (stO 2 (cD (.str "in"))) (sqO (loO (rng1F (callF lenK (consA (varD 0) nilA))) (nmG 3) BLW) (rtO (varD 2))) := rfl
theorem lwhere_eq {ps : List Pt} (g : Good ps) : v__law_where [shD ps, ptD2 p q] = .ok (whD (whL (cL p q ps) (List.range ps.length) .wi)) := by
  have hl := g.l2
  obtain ⟨w3, w4, w5, w6, w7, e⟩ := lwhere_loop hp hq g (List.range ps.length) .wi none none none none none (fun k hk => List.mem_range.mp hk)
  unfold v__law_where
  rw [fnR_ap, show argS 8 [shD ps, ptD2 p q] = [some (.pu (shD ps)), some (.pu (ptD2 p q)), none, none, none, none, none, none] from rfl, lwhere_eq', sq_nx (st_nx (d := whD .wi) rfl)]
  simp only [List.set]
  rw [sq_nx (show loO (rng1F (callF lenK (consA (varD 0) nilA))) (nmG 3) BLW [some (.pu (shD ps)), some (.pu (ptD2 p q)), some (.pu (whD .wi)), none, none, none, none, none] = _ from (by
    rw [loO_ap, rng1F_ap, callF_ap, consA_ap, varD_zero, nilA_ap, cnK_ok, R.ok_bind, lenK_tuple, List.length_map, rg_ok (by omega), rg_nD, loK_ok]
    exact e))]
  rfl
omit hp hq in
theorem side_facts {a b : Pt} (ha : Nr a) (hb : Nr b) (hab : a ≠ b) : SmS (sideP a b) ∧ ((aQ p q a b < 0 ↔ 0 < cP p q (sideP a b)) ∧ (aQ p q a b = 0 ↔ cP p q (sideP a b) = 0)) := by
  have hg := gcd_pos ha hb hab
  have hn := nrm_sm ha hb hab
  have h1 := ha.1
  have h2 := ha.2
  have p20 : (2 : Nat) ^ 20 = 1048576 := by decide
  refine ⟨⟨by omega, by omega, ?_⟩, ?_⟩
  · have e1 : ((sideP a b).1.1 * a.1).natAbs ≤ 2000 * 60 := by rw [Int.natAbs_mul]; exact Nat.mul_le_mul hn.1 h1
    have e2 : ((sideP a b).1.2 * a.2).natAbs ≤ 2000 * 60 := by rw [Int.natAbs_mul]; exact Nat.mul_le_mul hn.2 h2
    have e3 : (sideP a b).2 = (sideP a b).1.1 * a.1 + (sideP a b).1.2 * a.2 := rfl
    rw [e3]
    omega
  · have q1 : b.2 - a.2 = (sideP a b).1.1 * (Int.gcd (b.1 - a.1) (b.2 - a.2) : Nat) := (Int.ediv_mul_cancel (Int.gcd_dvd_right (b.1 - a.1) (b.2 - a.2))).symm
    have q2 : b.1 - a.1 = -((sideP a b).1.2 * (Int.gcd (b.1 - a.1) (b.2 - a.2) : Nat)) := by
      have := Int.ediv_mul_cancel (Int.gcd_dvd_left (b.1 - a.1) (b.2 - a.2))
      show b.1 - a.1 = -((0 - (b.1 - a.1) / (Int.gcd (b.1 - a.1) (b.2 - a.2) : Nat)) * (Int.gcd (b.1 - a.1) (b.2 - a.2) : Nat))
      rw [Int.zero_sub, Int.neg_mul, this, Int.neg_neg]
    obtain ⟨k1, k2⟩ := area_sg p q a.1 a.2 b.1 b.2 _ _ _ q1 q2 (by omega) (aQ p q a b) rfl
    unfold cP
    constructor
    · rw [k1, sg_pos, ord_pos]
      exact Iff.rfl
    · rw [k2, show sgI (ordI (dotQ (sideP a b).1 p q) ((sideP a b).2 : Rat)) = 0 ↔ ordI (dotQ (sideP a b).1 p q) ((sideP a b).2 : Rat) = 0 from by unfold sgI; split <;> (try split) <;> omega, ord_zero]
      exact Iff.rfl
theorem where_same {ps : List Pt} (g : Good ps) (hsf : v_shape_fault [shD ps] = .ok .none) : ∃ w, v_where [shD ps, ptD2 p q] = .ok (whD w) ∧ v__law_where [shD ps, ptD2 p q] = .ok (whD w) := by
  have hf : ∀ k, k < ps.length → _ := fun k hk => side_facts (p := p) (q := q) (g.nr _ (cAt_mem hk)) (g.nr _ (cAt_mem (nxt_lt hk))) (g.adj k hk)
  refine ⟨_, where_eq hp hq g hsf (fun s hs => ?_), ?_⟩
  · obtain ⟨k, hk, rfl⟩ := List.mem_map.mp hs
    exact (hf k (List.mem_range.mp hk)).1
  · rw [lwhere_eq hp hq g]
    unfold sidesP
    rw [whP_map, wh_same (cL := cL p q ps) (cP := fun k => cP p q (sideP (cAt ps k) (cAt ps (nxt ps k)))) (List.range ps.length) .wi (fun z => by cases z) (fun k hk => (hf k (List.mem_range.mp hk)).2)]
end
end Mt

namespace Mt
open PySem PySem.Spec PyProof.Rows L2 TD Dn
/-! ### the law's parts by name -/
noncomputable def mS1 : EnvS → Out := (stO 1 (callU 2 v__law_draws (consA (varD 0) (consA (cD (.int 120)) nilA))))
noncomputable def mUN : EnvS → Out := (unO (tupD (consA (callU 1 v__law_shape (consA (slcG (varD 1) (someP (bin2 mulD (cD (.int 10)) (varD 2))) noP) nilA)) (consA (callU 1 v__law_shape (consA (slcG (varD 1) (someP (bin2 addD (cD (.int 5)) (bin2 mulD (cD (.int 10)) (varD 2)))) noP) nilA)) nilA))) (tupG 2 (consG (nmG 3) (consG (nmG 4) nilG))))
noncomputable def tmI1 : EnvS → R Bool := (orB (asF (bin2 notND (callU 1 v_shape_fault (consA (varD 3) nilA)) (cD .none))) (orB (asF (bin2 notND (callU 1 v__law_fault (consA (varD 3) nilA)) (cD .none))) (asF (bin2 neD (callU 1 v_sides_of (consA (varD 3) nilA)) (callU 1 v__law_sides (consA (varD 3) nilA))))))
noncomputable def mI1 : EnvS → Out := (ifO tmI1 (rtO (cD (.bool false))) nxO)
noncomputable def emS6 : EnvS → R D := (callF sumK (lcF (rng1F (callF lenK (consA (varD 3) nilA))) (nmG 5) yesB (bin2 subD (bin2 mulD (bin2 ixD (bin2 ixD (varD 3) (bin2 subD (varD 5) (cD (.int 1)))) (cD (.int 0))) (bin2 ixD (bin2 ixD (varD 3) (varD 5)) (cD (.int 1)))) (bin2 mulD (bin2 ixD (bin2 ixD (varD 3) (bin2 subD (varD 5) (cD (.int 1)))) (cD (.int 1))) (bin2 ixD (bin2 ixD (varD 3) (varD 5)) (cD (.int 0))))) [5]))
noncomputable def mS6 : EnvS → Out := (stO 6 emS6)
noncomputable def tmI2 : EnvS → R Bool := (orB (asF (bin2 neD (callU 1 v_twice_area (consA (varD 3) nilA)) (varD 6))) (orB (asF (bin2 neD (lstF (srtT (callU 1 v_opposite (consA (varD 3) nilA)))) (lstF (callN sortK (lcF (seqF (varD 3)) (nmG 7) yesB (tupD (consA (bin2 subD (cD (.int 0)) (bin2 ixD (varD 7) (cD (.int 0)))) (consA (bin2 subD (cD (.int 0)) (bin2 ixD (varD 7) (cD (.int 1)))) nilA))) [7]))))) (orB (asF (bin2 notND (callU 1 v_shape_fault (consA (callU 1 v_opposite (consA (varD 3) nilA)) nilA)) (cD .none))) (asF (bin2 neD (callU 1 v_opposite (consA (callU 1 v_opposite (consA (varD 3) nilA)) nilA)) (varD 3))))))
noncomputable def mI2 : EnvS → Out := (ifO tmI2 (rtO (cD (.bool false))) nxO)
noncomputable def emS8 : EnvS → R D := (lstF (newD nilA))
noncomputable def mS8 : EnvS → Out := (stO 8 emS8)
noncomputable def fmL7 : EnvS → R (List D) := (seqF (varD 3))
noncomputable def bmL7 : EnvS → Out := (stO 8 (lstF (catL (asLF (varD 8)) (lcF (seqF (varD 4)) (nmG 21) yesB (tupD (consA (bin2 subD (bin2 ixD (varD 7) (cD (.int 0))) (bin2 ixD (varD 21) (cD (.int 0)))) (consA (bin2 subD (bin2 ixD (varD 7) (cD (.int 1))) (bin2 ixD (varD 21) (cD (.int 1)))) nilA))) [21]))))
noncomputable def mL7 : EnvS → Out := (loO fmL7 (nmG 7) bmL7)
noncomputable def emS9 : EnvS → R D := (callU 2 v_apart_corners (consA (varD 3) (consA (varD 4) nilA)))
noncomputable def mS9 : EnvS → Out := (stO 9 emS9)
noncomputable def tmI3 : EnvS → R Bool := (orB (asF (bin2 neD (varD 9) (callU 1 v__law_round (consA (varD 8) nilA)))) (asF (bin2 neD (callU 2 v_apart_sides (consA (varD 3) (consA (varD 4) nilA))) (callU 1 v__law_sides (consA (varD 9) nilA)))))
noncomputable def mI3 : EnvS → Out := (ifO tmI3 (rtO (cD (.bool false))) nxO)
noncomputable def fmL8 : EnvS → R (List D) := (rng1F (cD (.int 8)))
noncomputable def emL8_0 : EnvS → R D := (tupD (consA (callU 2 v__law_frac (consA (bin2 subD (bin2 modD (callF intG (consA (bin2 ixD (varD 1) (bin2 addD (cD (.int 50)) (varD 5))) nilA)) (cD (.int 17))) (cD (.int 4))) (consA (cD (.int 2)) nilA))) (consA (callU 2 v__law_frac (consA (bin2 subD (bin2 modD (callF intG (consA (bin2 ixD (varD 1) (bin2 addD (cD (.int 60)) (varD 5))) nilA)) (cD (.int 17))) (cD (.int 4))) (consA (cD (.int 2)) nilA))) nilA)))
noncomputable def mL8_0 : EnvS → Out := (stO 10 emL8_0)
noncomputable def tmL8_1 : EnvS → R Bool := (asF (bin2 neD (callU 2 v_where (consA (varD 3) (consA (varD 10) nilA))) (callU 2 v__law_where (consA (varD 3) (consA (varD 10) nilA)))))
noncomputable def mL8_1 : EnvS → Out := (ifO tmL8_1 (rtO (cD (.bool false))) nxO)
noncomputable def bmL8 : EnvS → Out := (sqO mL8_0 mL8_1)
noncomputable def mL8 : EnvS → Out := (loO fmL8 (nmG 5) bmL8)
noncomputable def emS11 : EnvS → R D := (joinL (cD (.str " ")) (lcF (seqF (varD 3)) (nmG 7) yesB (bin2 addD (bin2 addD (callF strK (consA (bin2 ixD (varD 7) (cD (.int 0))) nilA)) (cD (.str ","))) (callF strK (consA (bin2 ixD (varD 7) (cD (.int 1))) nilA))) [7]))
noncomputable def mS11 : EnvS → Out := (stO 11 emS11)
noncomputable def tmI4 : EnvS → R Bool := (orB (asF (bin2 neD (callU 1 v_shape_text (consA (varD 3) nilA)) (varD 11))) (asF (bin2 neD (callU 1 v_shape_of (consA (varD 11) nilA)) (varD 3))))
noncomputable def mI4 : EnvS → Out := (ifO tmI4 (rtO (cD (.bool false))) nxO)
noncomputable def mPA : EnvS → Out := (parO 12 13 (consA (bin2 modD (callF intG (consA (bin2 ixD (varD 1) (bin2 addD (cD (.int 70)) (varD 2))) nilA)) (callF lenK (consA (varD 3) nilA))) (consA (callF intG (consA (bin2 ixD (varD 1) (bin2 addD (cD (.int 75)) (varD 2))) nilA)) nilA)))
noncomputable def emS14 : EnvS → R D := (ixL (newD (consA (tupD (consA (cD (.int 31)) (consA (cD (.int 0)) nilA))) (consA (tupD (consA (cD (.bool true)) (consA (cD (.int 0)) nilA))) (consA (cD .none) (consA (tupD (consA (cD (.int 0)) nilA)) (consA (tupD (consA (un1 negD (cD (.int 9))) (consA (un1 negD (cD (.int 9))) nilA))) (consA (tupD (consA (cD (.int 1)) (consA (cD (.int 1)) nilA))) (consA (bin2 ixD (varD 3) (bin2 subD (varD 12) (cD (.int 1)))) (consA (tupD (consA (cD (.int 20)) (consA (cD (.int 20)) nilA))) nilA))))))))) (bin2 modD (varD 13) (cD (.int 8))))
noncomputable def mS14 : EnvS → Out := (stO 14 emS14)
noncomputable def fmL15 : EnvS → R (List D) := (seqF (tupD (consA (bin2 addD (bin2 addD (slcG (varD 3) noP (someP (varD 12))) (tupD (consA (varD 14) nilA))) (slcG (varD 3) (someP (bin2 addD (varD 12) (cD (.int 1)))) noP)) (consA (bin2 addD (slcG (varD 3) noP (someP (varD 12))) (slcG (varD 3) (someP (bin2 addD (varD 12) (cD (.int 1)))) noP)) (consA (revT (varD 3)) (consA (bin2 addD (slcG (varD 3) (someP (cD (.int 1))) noP) (slcG (varD 3) noP (someP (cD (.int 1))))) (consA (bin2 addD (varD 3) (slcG (varD 3) noP (someP (cD (.int 1))))) (consA (lstF (callN lstK (consA (varD 3) nilA))) (consA (bin2 addD (bin2 addD (slcG (varD 3) noP (someP (varD 12))) (tupD (consA (varD 14) nilA))) (slcG (varD 3) (someP (varD 12)) noP)) nilA)))))))))
noncomputable def tmL15_0 : EnvS → R Bool := (orB (asF (bin2 neD (callU 1 v_shape_fault (consA (varD 15) nilA)) (callU 1 v__law_fault (consA (varD 15) nilA)))) (asF (bin2 neD (bin2 eqD (callU 3 v__law_error (consA (cD (.int 0)) (consA (varD 15) (consA (cD .none) nilA)))) (cD (.str "shape"))) (bin2 notND (callU 1 v__law_fault (consA (varD 15) nilA)) (cD .none)))))
noncomputable def mL15_0 : EnvS → Out := (ifO tmL15_0 (rtO (cD (.bool false))) nxO)
noncomputable def bmL15 : EnvS → Out := mL15_0
noncomputable def mL15 : EnvS → Out := (loO fmL15 (nmG 15) bmL15)
noncomputable def etS16 : EnvS → R D := (tupD (consA (tupD (consA (cD (.int 0)) (consA (cD (.int 0)) nilA))) (consA (tupD (consA (cD (.int 6)) (consA (cD (.int 4)) nilA))) (consA (tupD (consA (un1 negD (cD (.int 1))) (consA (cD (.int 4)) nilA))) (consA (tupD (consA (cD (.int 5)) (consA (cD (.int 0)) nilA))) (consA (tupD (consA (cD (.int 2)) (consA (cD (.int 7)) nilA))) nilA))))))
noncomputable def tS16 : EnvS → Out := (stO 16 etS16)
noncomputable def tUN : EnvS → Out := (unO (tupD (consA (tupD (consA (tupD (consA (cD (.int 0)) (consA (cD (.int 0)) nilA))) (consA (tupD (consA (cD (.int 2)) (consA (cD (.int 0)) nilA))) (consA (tupD (consA (cD (.int 0)) (consA (cD (.int 2)) nilA))) nilA)))) (consA (tupD (consA (tupD (consA (cD (.int 1)) (consA (cD (.int 2)) nilA))) (consA (tupD (consA (cD (.int 1)) (consA (cD (.int 2)) nilA))) nilA))) nilA))) (tupG 2 (consG (nmG 17) (consG (nmG 10) nilG))))
noncomputable def ftL : EnvS → R (List D) := (seqF (tupD (consA (cD .none) (consA (tupD nilA) (consA (slcG (varD 17) noP (someP (cD (.int 2)))) (consA (tupD (consA (tupD (consA (cD (.int 0)) (consA (cD (.int 0)) nilA))) (consA (tupD (consA (cD (.int 1)) (consA (cD (.int 1)) nilA))) (consA (tupD (consA (cD (.int 2)) (consA (cD (.int 2)) nilA))) nilA)))) (consA (varD 16) (consA (bin2 repTD (varD 17) (cD (.int 3))) (consA (cD (.int 5)) nilA)))))))))
noncomputable def ttL_0 : EnvS → R Bool := (orB (asF (bin2 neD (callU 1 v_shape_fault (consA (varD 18) nilA)) (callU 1 v__law_fault (consA (varD 18) nilA)))) (asF (bin2 neD (lstF (lcF (seqF (tupD (consA (cD (.int 4)) (consA (cD (.int 5)) nilA)))) (nmG 20) yesB (callU 3 v__law_error (consA (varD 20) (consA (varD 17) (consA (varD 18) nilA)))) [20])) (lstF (repL (newD (consA (cD (.str "shape")) nilA)) (cD (.int 2)))))))
noncomputable def tL_0 : EnvS → Out := (ifO ttL_0 (rtO (cD (.bool false))) nxO)
noncomputable def ttL_1 : EnvS → R Bool := (asF (bin2 neD (lstF (lcF (rng1F (cD (.int 7))) (nmG 20) yesB (callU 3 v__law_error (consA (varD 20) (consA (varD 18) (consA (ifD (asF (bin2 gtD (varD 20) (cD (.int 3)))) (varD 17) (varD 10)) nilA)))) [20])) (lstF (repL (newD (consA (cD (.str "shape")) nilA)) (cD (.int 7))))))
noncomputable def tL_1 : EnvS → Out := (ifO ttL_1 (rtO (cD (.bool false))) nxO)
noncomputable def btL : EnvS → Out := (sqO tL_0 tL_1)
noncomputable def tL : EnvS → Out := (loO ftL (nmG 18) btL)
noncomputable def ttI : EnvS → R Bool := (asF (bin2 neD (lstF (lcF (seqF (tupD (consA (cD .none) (consA (tupD (consA (cD (.int 1)) (consA (cD (.int 2)) nilA))) (consA (tupD (consA (tupD (consA (cD (.int 1)) (consA (cD (.int 2)) nilA))) nilA)) (consA (tupD (consA (tupD (consA (cD (.int 2)) (consA (cD (.int 4)) nilA))) (consA (tupD (consA (cD (.int 0)) (consA (cD (.int 1)) nilA))) nilA))) nilA)))))) (nmG 18) yesB (callU 3 v__law_error (consA (cD (.int 1)) (consA (varD 17) (consA (varD 18) nilA)))) [18])) (lstF (repL (newD (consA (cD (.str "point")) nilA)) (cD (.int 4))))))
noncomputable def tI : EnvS → Out := (ifO ttI (rtO (cD (.bool false))) nxO)
noncomputable def etS19 : EnvS → R D := (lstF (newD (consA (cD (.str "")) (consA (cD (.str "0,0 2,0")) (consA (cD (.str "0,0 0,2 2,0")) (consA (cD (.str "0,0 2,0 0,2 ")) (consA (cD (.str "0,0  2,0 0,2")) (consA (cD (.str "0, 0 2,0 0,2")) (consA (cD (.str "00,0 2,0 0,2")) (consA (cD (.str "0,0 2 0,2")) (consA (cD (.str "0,0 2,0 0,31")) nilA)))))))))))
noncomputable def tS19 : EnvS → Out := (stO 19 etS19)
noncomputable def tR : EnvS → Out := (rtO (bin2 eqD (lstF (lcF (catL (newD (consA (cD .none) (consA (cD (.int 5)) nilA))) (asLF (varD 19))) (nmG 18) yesB (callU 3 v__law_error (consA (cD (.int 7)) (consA (varD 18) (consA (cD .none) nilA)))) [18])) (lstF (repL (newD (consA (cD (.str "text")) nilA)) (cD (.int 11))))))
noncomputable def mBody : EnvS → Out := (sqO mUN (sqO mI1 (sqO mS6 (sqO mI2 (sqO mS8 (sqO mL7 (sqO mS9 (sqO mI3 (sqO mL8 (sqO mS11 (sqO mI4 (sqO mPA (sqO mS14 mL15)))))))))))))
noncomputable def tTail : EnvS → Out := (sqO tS16 (sqO tUN (sqO tL (sqO tI (sqO tS19 tR)))))
theorem law_parts : b_law = sqO mS1 (sqO (loO (rng1F (cD (.int 4))) (nmG 2) mBody) tTail) := rfl
end Mt

namespace Mt
open PySem PySem.Spec PyProof.Rows L2 TD Dn
/-! ### the law's end: values of other kinds, by reckoning -/
def isStr (r : R D) (s : Str) : Bool := match r with | .ok (.str t) => decide (t = s) | _ => false
theorem isStr_eq {r : R D} {s : Str} (h : isStr r s = true) : r = .ok (.str s) := by
  unfold isStr at h
  split at h
  · rw [of_decide_eq_true h]
  · cases h
abbrev shp : D := .str "shape"
abbrev fineD : D := shD [(0, 0), (2, 0), (0, 2)]
abbrev starD : D := shD [(0, 0), (6, 4), (-1, 4), (5, 0), (2, 7)]
abbrev pt12 : D := .tuple [.tuple [.int 1, .int 2], .tuple [.int 1, .int 2]]
noncomputable def chkW (w : D) : Bool := isFls (k2 neD (v_shape_fault [w]) (lfV w)) && (isStr (v__law_error [.int 4, fineD, w]) "shape" && (isStr (v__law_error [.int 5, fineD, w]) "shape" && (List.range 7).all fun c => isStr (v__law_error [.int (c : Nat), w, if 3 < c then fineD else pt12]) "shape"))
structure Wrong (w : D) : Prop where
  ne : k2 neD (v_shape_fault [w]) (v__law_fault [w]) = .ok (.bool false)
  e4 : v__law_error [.int 4, fineD, w] = .ok shp
  e5 : v__law_error [.int 5, fineD, w] = .ok shp
  e7 : ∀ c : Nat, c < 7 → v__law_error [.int (c : Nat), w, if 3 < c then fineD else pt12] = .ok shp
theorem wrong_of {w : D} (h : chkW w = true) : Wrong w := by
  unfold chkW at h
  rw [Bool.and_eq_true, Bool.and_eq_true, Bool.and_eq_true] at h
  obtain ⟨h1, h2, h3, h4⟩ := h
  exact ⟨by rw [lfV_eq]; exact isFls_eq h1, isStr_eq h2, isStr_eq h3, fun c hc => isStr_eq (List.all_eq_true.mp h4 c (List.mem_range.mpr hc))⟩
abbrev wrongs : List D := [.none, .tuple [], shD [(0, 0), (2, 0)], shD [(0, 0), (1, 1), (2, 2)], starD, shD [(0, 0), (2, 0), (0, 2), (0, 0), (2, 0), (0, 2), (0, 0), (2, 0), (0, 2)], .int 5]
theorem wrong_1 : chkW .none = true := by decide +kernel
theorem wrong_2 : chkW (.tuple []) = true := by decide +kernel
theorem wrong_3 : chkW (shD [(0, 0), (2, 0)]) = true := by decide +kernel
theorem wrong_4 : chkW (shD [(0, 0), (1, 1), (2, 2)]) = true := by decide +kernel
theorem wrong_5 : chkW starD = true := by decide +kernel
theorem wrong_6 : chkW (shD [(0, 0), (2, 0), (0, 2), (0, 0), (2, 0), (0, 2), (0, 0), (2, 0), (0, 2)]) = true := by decide +kernel
theorem wrong_7 : chkW (.int 5) = true := by decide +kernel
theorem wrongs_all : ∀ w ∈ wrongs, Wrong w := by
  intro w hw
  rcases List.mem_cons.mp hw with rfl | hw
  · exact wrong_of wrong_1
  rcases List.mem_cons.mp hw with rfl | hw
  · exact wrong_of wrong_2
  rcases List.mem_cons.mp hw with rfl | hw
  · exact wrong_of wrong_3
  rcases List.mem_cons.mp hw with rfl | hw
  · exact wrong_of wrong_4
  rcases List.mem_cons.mp hw with rfl | hw
  · exact wrong_of wrong_5
  rcases List.mem_cons.mp hw with rfl | hw
  · exact wrong_of wrong_6
  rcases List.mem_cons.mp hw with rfl | hw
  · exact wrong_of wrong_7
  cases hw
abbrev texts : List D := [.str "", .str "0,0 2,0", .str "0,0 0,2 2,0", .str "0,0 2,0 0,2 ", .str "0,0  2,0 0,2", .str "0, 0 2,0 0,2", .str "00,0 2,0 0,2", .str "0,0 2 0,2", .str "0,0 2,0 0,31"]
noncomputable def chkT (t : D) : Bool := isStr (v__law_error [.int 7, t, .none]) "text"
theorem text_1 : chkT .none = true := by decide +kernel
theorem text_2 : chkT (.int 5) = true := by decide +kernel
theorem text_3 : texts.all (fun t => chkT t) = true := by decide +kernel
theorem point_1 : isStr (v__law_error [.int 1, fineD, .none]) "point" = true := by decide +kernel
theorem point_2 : isStr (v__law_error [.int 1, fineD, .tuple [.int 1, .int 2]]) "point" = true := by decide +kernel
theorem point_3 : isStr (v__law_error [.int 1, fineD, .tuple [.tuple [.int 1, .int 2]]]) "point" = true := by decide +kernel
end Mt

namespace Mt
open PySem PySem.Spec PyProof.Rows L2 TD Dn
/-! ### the law's end -/
theorem or_ff' {t t' : EnvS → R Bool} {ρ : EnvS} (h1 : t ρ = .ok false) (h2 : t' ρ = .ok false) : orB t t' ρ = .ok false := or_ff h1 h2
theorem as_eq {k : D → D → R D} {f g : EnvS → R D} {ρ : EnvS} {a b : R D} {c : Bool} (hf : f ρ = a) (hg : g ρ = b) (h : k2 k a b = .ok (.bool c)) : asF (bin2 k f g) ρ = .ok c := by
  rw [asF_ap, bin2_ap, hf, hg, h, asB_ok]
theorem cu1e {F : List D → R D} {f : EnvS → R D} {ρ : EnvS} {d : D} {r : R D} (h : f ρ = .ok d) (hr : F [d] = r) : callU 1 F (consA f nilA) ρ = r := (cu1 h).trans hr
theorem point_4 : v__law_error [.int 1, fineD, .tuple [.tuple [.int 2, .int 4], .tuple [.int 0, .int 1]]] = .ok (.str "point") := by
  have e1 : v_is_number [.tuple [.int 2, .int 4]] = .ok (.bool false) := by
    rw [isnum_pair]
    rfl
  have e2 : v_is_point [.tuple [.tuple [.int 2, .int 4], .tuple [.int 0, .int 1]]] = .ok (.bool false) := by
    show fnK (b_is_point [some (.pu (.tuple [.tuple [.int 2, .int 4], .tuple [.int 0, .int 1]]))]) = _
    unfold b_is_point
    simp [isiK, tyName, kit_tt, eqD_int, e1]
  have e3 : v_check_points [.tuple [.tuple [.tuple [.int 2, .int 4], .tuple [.int 0, .int 1]]]] = .ex "BadPoint" := by
    show fnK (b_check_points [some (.pu (.tuple [.tuple [.tuple [.int 2, .int 4], .tuple [.int 0, .int 1]]])), none]) = _
    unfold b_check_points
    have e : lcF (seqF (varD 0)) (nmG 1) yesB (callU 1 v_is_point (consA (varD 1) nilA)) [1] [some (.pu (.tuple [.tuple [.tuple [.int 2, .int 4], .tuple [.int 0, .int 1]]])), none] = .ok [.bool false] := by
      rw [lcF_ap, seqF_ap, varD_zero, sqK_t, lcK_ok rfl]
      exact compO_cons (ρ1 := [some (.pu (.tuple [.tuple [.tuple [.int 2, .int 4], .tuple [.int 0, .int 1]]])), some (.pu (.tuple [.tuple [.int 2, .int 4], .tuple [.int 0, .int 1]]))]) rfl (cu1e rfl e2) rfl
    rw [ifO_ap, notB_ap, asF_ap, callF_ap, e]
    rfl
  have e4 : v_where [fineD, .tuple [.tuple [.int 2, .int 4], .tuple [.int 0, .int 1]]] = .ex "BadPoint" := by
    have s0 : v_shape_fault [fineD] = .ok .none := isNone_eq (by decide +kernel)
    show fnK (b_where [some (.pu fineD), some (.pu (.tuple [.tuple [.int 2, .int 4], .tuple [.int 0, .int 1]]))]) = _
    unfold b_where
    rw [ex_ok (cu1e (d := fineD) rfl (check_ok s0)), ex_bad (cu1e (d := .tuple [.tuple [.tuple [.int 2, .int 4], .tuple [.int 0, .int 1]]]) rfl e3)]
    rfl
  show fnK (b__law_error [some (.pu (.int 1)), some (.pu fineD), some (.pu (.tuple [.tuple [.int 2, .int 4], .tuple [.int 0, .int 1]]))]) = _
  unfold b__law_error
  rw [sqO_ap, tryO_ap, ifO_ap, asF_ap, bin2_ap, varD_zero, cD_ap, k2_ok, eqD_int, asB_ok, show decide ((1 : Int) = 0) = false from rfl, ifK_f, ifO_ap, asF_ap, bin2_ap, varD_zero, cD_ap, k2_ok, eqD_int, asB_ok, show decide ((1 : Int) = 1) = true from rfl, ifK_t, exO_ap, cu2 (d := fineD) (e := .tuple [.tuple [.int 2, .int 4], .tuple [.int 0, .int 1]]) rfl rfl, e4, exK_ex, tryK_ex]
  rw [hdO, if_pos (by decide +kernel), if_neg (by decide +kernel), hdO, if_pos (by decide +kernel), if_pos rfl]
  rfl
theorem wrong_step {w : D} (h : Wrong w) {z0 z1 z2 z3 z4 z5 z6 z7 z8 z9 z11 z12 z13 z14 z15 z19 z20 z21 : Option Sl} : btL [z0, z1, z2, z3, z4, z5, z6, z7, z8, z9, some (.pu pt12), z11, z12, z13, z14, z15, some (.pu starD), some (.pu fineD), some (.pu w), z19, z20, z21] = .nx [z0, z1, z2, z3, z4, z5, z6, z7, z8, z9, some (.pu pt12), z11, z12, z13, z14, z15, some (.pu starD), some (.pu fineD), some (.pu w), z19, z20, z21] := by
  have v18 : varD 18 [z0, z1, z2, z3, z4, z5, z6, z7, z8, z9, some (.pu pt12), z11, z12, z13, z14, z15, some (.pu starD), some (.pu fineD), some (.pu w), z19, z20, z21] = .ok w := rfl
  have c1 : lcF (seqF (tupD (consA (cD (.int 4)) (consA (cD (.int 5)) nilA)))) (nmG 20) yesB (callU 3 v__law_error (consA (varD 20) (consA (varD 17) (consA (varD 18) nilA)))) [20] [z0, z1, z2, z3, z4, z5, z6, z7, z8, z9, some (.pu pt12), z11, z12, z13, z14, z15, some (.pu starD), some (.pu fineD), some (.pu w), z19, z20, z21] = .ok [shp, shp] := by
    rw [lcF_ap, show seqF (tupD (consA (cD (.int 4)) (consA (cD (.int 5)) nilA))) [z0, z1, z2, z3, z4, z5, z6, z7, z8, z9, some (.pu pt12), z11, z12, z13, z14, z15, some (.pu starD), some (.pu fineD), some (.pu w), z19, z20, z21] = .ok [.int 4, .int 5] from rfl, lcK_ok rfl]
    exact compO_cons (ρ1 := [z0, z1, z2, z3, z4, z5, z6, z7, z8, z9, some (.pu pt12), z11, z12, z13, z14, z15, some (.pu starD), some (.pu fineD), some (.pu w), z19, some (.pu (.int 4)), z21]) rfl ((cu3 (d := .int 4) (e := fineD) (c := w) rfl rfl rfl).trans h.e4) (compO_cons (ρ1 := [z0, z1, z2, z3, z4, z5, z6, z7, z8, z9, some (.pu pt12), z11, z12, z13, z14, z15, some (.pu starD), some (.pu fineD), some (.pu w), z19, some (.pu (.int 5)), z21]) rfl ((cu3 (d := .int 5) (e := fineD) (c := w) rfl rfl rfl).trans h.e5) rfl)
  have c2 : lcF (rng1F (cD (.int 7))) (nmG 20) yesB (callU 3 v__law_error (consA (varD 20) (consA (varD 18) (consA (ifD (asF (bin2 gtD (varD 20) (cD (.int 3)))) (varD 17) (varD 10)) nilA)))) [20] [z0, z1, z2, z3, z4, z5, z6, z7, z8, z9, some (.pu pt12), z11, z12, z13, z14, z15, some (.pu starD), some (.pu fineD), some (.pu w), z19, z20, z21] = .ok ((List.range 7).map fun _ => shp) := by
    rw [lcF_ap, rng1F_ap, cD_ap, show (7 : Int) = ((7 : Nat) : Int) from rfl, rg_ok (by decide), rg_nD, lcK_ok (by rw [List.length_map, List.length_range]; rfl)]
    refine comp_map (h := fun _ => shp) (List.range 7) fun k hk => ?_
    have hk := List.mem_range.mp hk
    refine (cu3 (d := nD k) (e := w) (c := if 3 < k then fineD else pt12) rfl rfl ?_).trans (h.e7 k hk)
    show ifD (asF (bin2 gtD (varD 20) (cD (.int 3)))) (varD 17) (varD 10) [z0, z1, z2, z3, z4, z5, z6, z7, z8, z9, some (.pu pt12), z11, z12, z13, z14, z15, some (.pu starD), some (.pu fineD), some (.pu w), z19, some (.pu (nD k)), z21] = _
    rw [ifD_ap, asF_ap, bin2_ap, show varD 20 [z0, z1, z2, z3, z4, z5, z6, z7, z8, z9, some (.pu pt12), z11, z12, z13, z14, z15, some (.pu starD), some (.pu fineD), some (.pu w), z19, some (.pu (nD k)), z21] = .ok (.int (k : Nat)) from rfl, cD_ap, k2_ok, gtD_int, asB_ok]
    by_cases h3 : 3 < k
    · rw [decide_eq_true (by omega), ifDK_t, if_pos h3]
      rfl
    · rw [decide_eq_false (by omega), ifDK_f, if_neg h3]
      rfl
  have r2 : lstF (repL (newD (consA (cD (.str "shape")) nilA)) (cD (.int 2))) [z0, z1, z2, z3, z4, z5, z6, z7, z8, z9, some (.pu pt12), z11, z12, z13, z14, z15, some (.pu starD), some (.pu fineD), some (.pu w), z19, z20, z21] = .ok (.list [shp, shp]) := rfl
  have r7 : lstF (repL (newD (consA (cD (.str "shape")) nilA)) (cD (.int 7))) [z0, z1, z2, z3, z4, z5, z6, z7, z8, z9, some (.pu pt12), z11, z12, z13, z14, z15, some (.pu starD), some (.pu fineD), some (.pu w), z19, z20, z21] = .ok (.list [shp, shp, shp, shp, shp, shp, shp]) := rfl
  have n2 : neD (.list [shp, shp]) (.list [shp, shp]) = .ok (.bool false) := isFls_eq (by decide +kernel)
  have n7 : neD (.list ((List.range 7).map fun _ => shp)) (.list [shp, shp, shp, shp, shp, shp, shp]) = .ok (.bool false) := isFls_eq (by decide +kernel)
  unfold btL
  have t0 : ttL_0 [z0, z1, z2, z3, z4, z5, z6, z7, z8, z9, some (.pu pt12), z11, z12, z13, z14, z15, some (.pu starD), some (.pu fineD), some (.pu w), z19, z20, z21] = .ok false := by
    unfold ttL_0
    refine or_ff (as_eq (cu1e v18 rfl) (cu1e v18 rfl) h.ne) (as_eq (a := .ok (.list [shp, shp])) ?_ r2 n2)
    rw [lstF_ap, c1, lsK_ok]
  have t1 : ttL_1 [z0, z1, z2, z3, z4, z5, z6, z7, z8, z9, some (.pu pt12), z11, z12, z13, z14, z15, some (.pu starD), some (.pu fineD), some (.pu w), z19, z20, z21] = .ok false := by
    unfold ttL_1
    refine as_eq (a := .ok (.list ((List.range 7).map fun _ => shp))) ?_ r7 n7
    rw [lstF_ap, c2, lsK_ok]
  unfold tL_0 tL_1
  rw [sq_nx (if_skip t0), if_skip t1]
theorem wrong_loop : ∀ (ws : List D), (∀ w ∈ ws, Wrong w) → ∀ {z0 z1 z2 z3 z4 z5 z6 z7 z8 z9 z11 z12 z13 z14 z15 z18 z19 z20 z21 : Option Sl}, ∃ w18, forO (nmG 18) btL ws [z0, z1, z2, z3, z4, z5, z6, z7, z8, z9, some (.pu pt12), z11, z12, z13, z14, z15, some (.pu starD), some (.pu fineD), z18, z19, z20, z21] = .nx [z0, z1, z2, z3, z4, z5, z6, z7, z8, z9, some (.pu pt12), z11, z12, z13, z14, z15, some (.pu starD), some (.pu fineD), w18, z19, z20, z21]
  | [], _, z0, z1, z2, z3, z4, z5, z6, z7, z8, z9, z11, z12, z13, z14, z15, z18, z19, z20, z21 => ⟨z18, rfl⟩
  | w :: ws, h, z0, z1, z2, z3, z4, z5, z6, z7, z8, z9, z11, z12, z13, z14, z15, z18, z19, z20, z21 => by
    obtain ⟨w18, e⟩ := wrong_loop ws (fun x hx => h x (List.mem_cons_of_mem _ hx)) (z0 := z0) (z1 := z1) (z2 := z2) (z3 := z3) (z4 := z4) (z5 := z5) (z6 := z6) (z7 := z7) (z8 := z8) (z9 := z9) (z11 := z11) (z12 := z12) (z13 := z13) (z14 := z14) (z15 := z15) (z18 := some (.pu w)) (z19 := z19) (z20 := z20) (z21 := z21)
    exact ⟨w18, (forO_cons (ρ1 := [z0, z1, z2, z3, z4, z5, z6, z7, z8, z9, some (.pu pt12), z11, z12, z13, z14, z15, some (.pu starD), some (.pu fineD), some (.pu w), z19, z20, z21]) rfl (wrong_step (h w List.mem_cons_self))).trans e⟩
theorem points_ok {z0 z1 z2 z3 z4 z5 z6 z7 z8 z9 z11 z12 z13 z14 z15 z18 z19 z20 z21 : Option Sl} : ttI [z0, z1, z2, z3, z4, z5, z6, z7, z8, z9, some (.pu pt12), z11, z12, z13, z14, z15, some (.pu starD), some (.pu fineD), z18, z19, z20, z21] = .ok false := by
  have c : lcF (seqF (tupD (consA (cD .none) (consA (tupD (consA (cD (.int 1)) (consA (cD (.int 2)) nilA))) (consA (tupD (consA (tupD (consA (cD (.int 1)) (consA (cD (.int 2)) nilA))) nilA)) (consA (tupD (consA (tupD (consA (cD (.int 2)) (consA (cD (.int 4)) nilA))) (consA (tupD (consA (cD (.int 0)) (consA (cD (.int 1)) nilA))) nilA))) nilA)))))) (nmG 18) yesB (callU 3 v__law_error (consA (cD (.int 1)) (consA (varD 17) (consA (varD 18) nilA)))) [18] [z0, z1, z2, z3, z4, z5, z6, z7, z8, z9, some (.pu pt12), z11, z12, z13, z14, z15, some (.pu starD), some (.pu fineD), z18, z19, z20, z21] = .ok [.str "point", .str "point", .str "point", .str "point"] := by
    rw [lcF_ap]
    show lcK (.ok [.none, .tuple [.int 1, .int 2], .tuple [.tuple [.int 1, .int 2]], .tuple [.tuple [.int 2, .int 4], .tuple [.int 0, .int 1]]]) (nmG 18) yesB (callU 3 v__law_error (consA (cD (.int 1)) (consA (varD 17) (consA (varD 18) nilA)))) [18] [z0, z1, z2, z3, z4, z5, z6, z7, z8, z9, some (.pu pt12), z11, z12, z13, z14, z15, some (.pu starD), some (.pu fineD), z18, z19, z20, z21] = _
    rw [lcK_ok rfl]
    exact (compO_cons (ρ1 := [z0, z1, z2, z3, z4, z5, z6, z7, z8, z9, some (.pu pt12), z11, z12, z13, z14, z15, some (.pu starD), some (.pu fineD), some (.pu (.none)), z19, z20, z21]) rfl ((cu3 (d := .int 1) (e := fineD) (c := .none) rfl rfl rfl).trans (isStr_eq point_1)) (compO_cons (ρ1 := [z0, z1, z2, z3, z4, z5, z6, z7, z8, z9, some (.pu pt12), z11, z12, z13, z14, z15, some (.pu starD), some (.pu fineD), some (.pu (.tuple [.int 1, .int 2])), z19, z20, z21]) rfl ((cu3 (d := .int 1) (e := fineD) (c := .tuple [.int 1, .int 2]) rfl rfl rfl).trans (isStr_eq point_2)) (compO_cons (ρ1 := [z0, z1, z2, z3, z4, z5, z6, z7, z8, z9, some (.pu pt12), z11, z12, z13, z14, z15, some (.pu starD), some (.pu fineD), some (.pu (.tuple [.tuple [.int 1, .int 2]])), z19, z20, z21]) rfl ((cu3 (d := .int 1) (e := fineD) (c := .tuple [.tuple [.int 1, .int 2]]) rfl rfl rfl).trans (isStr_eq point_3)) (compO_cons (ρ1 := [z0, z1, z2, z3, z4, z5, z6, z7, z8, z9, some (.pu pt12), z11, z12, z13, z14, z15, some (.pu starD), some (.pu fineD), some (.pu (.tuple [.tuple [.int 2, .int 4], .tuple [.int 0, .int 1]])), z19, z20, z21]) rfl ((cu3 (d := .int 1) (e := fineD) (c := .tuple [.tuple [.int 2, .int 4], .tuple [.int 0, .int 1]]) rfl rfl rfl).trans point_4) rfl))))
  have r : lstF (repL (newD (consA (cD (.str "point")) nilA)) (cD (.int 4))) [z0, z1, z2, z3, z4, z5, z6, z7, z8, z9, some (.pu pt12), z11, z12, z13, z14, z15, some (.pu starD), some (.pu fineD), z18, z19, z20, z21] = .ok (.list [.str "point", .str "point", .str "point", .str "point"]) := rfl
  unfold ttI
  refine as_eq (a := .ok (.list [.str "point", .str "point", .str "point", .str "point"])) ?_ r (isFls_eq (by decide +kernel))
  rw [lstF_ap, c, lsK_ok]
theorem texts_ok {z0 z1 z2 z3 z4 z5 z6 z7 z8 z9 z11 z12 z13 z14 z15 z18 z20 z21 : Option Sl} : fnK (tR [z0, z1, z2, z3, z4, z5, z6, z7, z8, z9, some (.pu pt12), z11, z12, z13, z14, z15, some (.pu starD), some (.pu fineD), z18, some (.pu (.list texts)), z20, z21]) = .ok (.bool true) := by
  have hx : ∀ t ∈ (.none :: .int 5 :: texts : List D), v__law_error [.int 7, t, .none] = .ok (.str "text") := by
    intro t ht
    rcases List.mem_cons.mp ht with rfl | ht
    · exact isStr_eq text_1
    rcases List.mem_cons.mp ht with rfl | ht
    · exact isStr_eq text_2
    exact isStr_eq (List.all_eq_true.mp text_3 t ht)
  have c : lcF (catL (newD (consA (cD .none) (consA (cD (.int 5)) nilA))) (asLF (varD 19))) (nmG 18) yesB (callU 3 v__law_error (consA (cD (.int 7)) (consA (varD 18) (consA (cD .none) nilA)))) [18] [z0, z1, z2, z3, z4, z5, z6, z7, z8, z9, some (.pu pt12), z11, z12, z13, z14, z15, some (.pu starD), some (.pu fineD), z18, some (.pu (.list texts)), z20, z21] = .ok ((.none :: .int 5 :: texts : List D).map fun _ => .str "text") := by
    rw [lcF_ap]
    show lcK (.ok (.none :: .int 5 :: texts)) (nmG 18) yesB (callU 3 v__law_error (consA (cD (.int 7)) (consA (varD 18) (consA (cD .none) nilA)))) [18] [z0, z1, z2, z3, z4, z5, z6, z7, z8, z9, some (.pu pt12), z11, z12, z13, z14, z15, some (.pu starD), some (.pu fineD), z18, some (.pu (.list texts)), z20, z21] = _
    rw [lcK_ok rfl]
    have e := comp_map (i := 18) (ρ := wipeS [z0, z1, z2, z3, z4, z5, z6, z7, z8, z9, some (.pu pt12), z11, z12, z13, z14, z15, some (.pu starD), some (.pu fineD), z18, some (.pu (.list texts)), z20, z21] [18]) (fe := callU 3 v__law_error (consA (cD (.int 7)) (consA (varD 18) (consA (cD .none) nilA)))) (g := fun t : D => t) (h := fun _ => .str "text") (.none :: .int 5 :: texts) (fun t ht => (cu3 (d := .int 7) (e := t) (c := .none) rfl rfl rfl).trans (hx t ht))
    rw [List.map_id''] at e
    · exact e
    · intro x; rfl
  have r : lstF (repL (newD (consA (cD (.str "text")) nilA)) (cD (.int 11))) [z0, z1, z2, z3, z4, z5, z6, z7, z8, z9, some (.pu pt12), z11, z12, z13, z14, z15, some (.pu starD), some (.pu fineD), z18, some (.pu (.list texts)), z20, z21] = .ok (.list [.str "text", .str "text", .str "text", .str "text", .str "text", .str "text", .str "text", .str "text", .str "text", .str "text", .str "text"]) := rfl
  unfold tR
  rw [rtO_ap, fnK_rtK, bin2_ap, lstF_ap, c, lsK_ok, r, k2_ok]
  exact isTru_eq (by decide +kernel)
theorem tail_ok {z0 z1 z2 z3 z4 z5 z6 z7 z8 z9 z10 z11 z12 z13 z14 z15 z16 z17 z18 z19 z20 z21 : Option Sl} : fnK (tTail [z0, z1, z2, z3, z4, z5, z6, z7, z8, z9, z10, z11, z12, z13, z14, z15, z16, z17, z18, z19, z20, z21]) = .ok (.bool true) := by
  unfold tTail
  rw [sq_nx (show tS16 [z0, z1, z2, z3, z4, z5, z6, z7, z8, z9, z10, z11, z12, z13, z14, z15, z16, z17, z18, z19, z20, z21] = .nx [z0, z1, z2, z3, z4, z5, z6, z7, z8, z9, z10, z11, z12, z13, z14, z15, some (.pu starD), z17, z18, z19, z20, z21] from rfl)]
  rw [sq_nx (show tUN [z0, z1, z2, z3, z4, z5, z6, z7, z8, z9, z10, z11, z12, z13, z14, z15, some (.pu starD), z17, z18, z19, z20, z21] = .nx [z0, z1, z2, z3, z4, z5, z6, z7, z8, z9, some (.pu pt12), z11, z12, z13, z14, z15, some (.pu starD), some (.pu fineD), z18, z19, z20, z21] from rfl)]
  obtain ⟨w18, e⟩ := wrong_loop wrongs wrongs_all (z0 := z0) (z1 := z1) (z2 := z2) (z3 := z3) (z4 := z4) (z5 := z5) (z6 := z6) (z7 := z7) (z8 := z8) (z9 := z9) (z11 := z11) (z12 := z12) (z13 := z13) (z14 := z14) (z15 := z15) (z18 := z18) (z19 := z19) (z20 := z20) (z21 := z21)
  rw [sq_nx (show tL [z0, z1, z2, z3, z4, z5, z6, z7, z8, z9, some (.pu pt12), z11, z12, z13, z14, z15, some (.pu starD), some (.pu fineD), z18, z19, z20, z21] = .nx [z0, z1, z2, z3, z4, z5, z6, z7, z8, z9, some (.pu pt12), z11, z12, z13, z14, z15, some (.pu starD), some (.pu fineD), w18, z19, z20, z21] from by
    unfold tL
    rw [loO_ap, show ftL [z0, z1, z2, z3, z4, z5, z6, z7, z8, z9, some (.pu pt12), z11, z12, z13, z14, z15, some (.pu starD), some (.pu fineD), z18, z19, z20, z21] = .ok wrongs from rfl, loK_ok]
    exact e)]
  unfold tI
  rw [sq_nx (if_skip points_ok), sq_nx (show tS19 [z0, z1, z2, z3, z4, z5, z6, z7, z8, z9, some (.pu pt12), z11, z12, z13, z14, z15, some (.pu starD), some (.pu fineD), w18, z19, z20, z21] = .nx [z0, z1, z2, z3, z4, z5, z6, z7, z8, z9, some (.pu pt12), z11, z12, z13, z14, z15, some (.pu starD), some (.pu fineD), w18, some (.pu (.list texts)), z20, z21] from rfl)]
  exact texts_ok
end Mt

namespace Mt
open PySem PySem.Spec PyProof.Rows L2 TD Dn
/-! ### flat data -/
structure Flat (n : Nat) (d : D) : Prop where
  can : PyData.canLay0 d = true
  dep : PyData.depth d ≤ n
  eqv : PyData.eqv d d = true
theorem flat_all {n : Nat} : ∀ {ds : List D}, (∀ d ∈ ds, Flat n d) → PyData.canLayAll0 ds = true ∧ PyData.depthAll ds ≤ n ∧ PyData.eqvAll ds ds = true
  | [], _ => ⟨by rw [PyData.canLayAll0], by rw [PyData.depthAll]; omega, by rw [PyData.eqvAll]⟩
  | d :: ds, h => by
    have h1 := h d List.mem_cons_self
    obtain ⟨a, b, c⟩ := flat_all fun x hx => h x (List.mem_cons_of_mem _ hx)
    have := h1.dep
    exact ⟨by rw [PyData.canLayAll0, h1.can, a]; rfl, by rw [PyData.depthAll]; omega, by rw [PyData.eqvAll, h1.eqv, c]; rfl⟩
theorem flat_tup {n : Nat} {ds : List D} (h : ∀ d ∈ ds, Flat n d) : Flat (n + 1) (.tuple ds) := by
  obtain ⟨a, b, c⟩ := flat_all h
  exact ⟨by rw [PyData.canLay0, a], by rw [PyData.depth]; omega, by rw [PyData.eqv, c]⟩
theorem flat_lst {n : Nat} {ds : List D} (h : ∀ d ∈ ds, Flat n d) : Flat (n + 1) (.list ds) := by
  obtain ⟨a, b, c⟩ := flat_all h
  exact ⟨by rw [PyData.canLay0, a], by rw [PyData.depth]; omega, by rw [PyData.eqv, c]⟩
theorem flat_int (a : Int) : Flat 0 (.int a) := ⟨by rw [PyData.canLay0], by rw [PyData.depth]; omega, by rw [eqv_int, decide_eq_true rfl]⟩
theorem Flat.up {n m : Nat} {d : D} (h : Flat n d) (l : n ≤ m) : Flat m d := ⟨h.can, by have := h.dep; omega, h.eqv⟩
theorem flat_pr (p : Pt) : Flat 1 (prD2 p) := flat_tup fun d hd => by
  rcases List.mem_cons.mp hd with rfl | hd
  · exact flat_int _
  rcases List.mem_cons.mp hd with rfl | hd
  · exact flat_int _
  cases hd
theorem flat_prs (ps : List Pt) : Flat 2 (shD ps) := flat_tup fun d hd => by
  obtain ⟨p, _, rfl⟩ := List.mem_map.mp hd
  exact flat_pr p
theorem flat_prl (ps : List Pt) : Flat 2 (.list (ps.map prD2)) := flat_lst fun d hd => by
  obtain ⟨p, _, rfl⟩ := List.mem_map.mp hd
  exact flat_pr p
theorem flat_sd (s : Sd) : Flat 2 (sdD s) := flat_tup fun d hd => by
  rcases List.mem_cons.mp hd with rfl | hd
  · exact flat_pr _
  rcases List.mem_cons.mp hd with rfl | hd
  · exact (flat_int _).up (by decide)
  cases hd
theorem flat_sds (ss : List Sd) : Flat 3 (.tuple (ss.map sdD)) := flat_tup fun d hd => by
  obtain ⟨p, _, rfl⟩ := List.mem_map.mp hd
  exact flat_sd p
theorem flat_ok {n : Nat} {d : D} (h : Flat n d) (hn : n ≤ 64) : okD d = true := by
  have := h.dep
  show (PyData.canLay0 d && decide (PyData.depth d ≤ 64)) = true
  rw [h.can, decide_eq_true (by omega)]
  rfl
theorem ne_flat {n : Nat} {d : D} (h : Flat n d) (hn : n ≤ 64) : neD d d = .ok (.bool false) := ne_same (flat_ok h hn) h.eqv
theorem ne_str {t : Str} (h : okD (.str t) = true) : neD (.str t) (.str t) = .ok (.bool false) := ne_same h (by rw [PyData.eqv]; exact decide_eq_true rfl)
/-! ### small steps -/
section
variable {f g : EnvS → R D} {gs : EnvS → R (List D)} {ρ : EnvS} {p q : Pt} {a b : Int} {d : D} {ds es : List D}
theorem px0 (h : f ρ = .ok (prD2 p)) : bin2 ixD f (cD (.int 0)) ρ = .ok (.int p.1) := by rw [bin2_ap, h, cD_ap, k2_ok, ixP0]
theorem px1 (h : f ρ = .ok (prD2 p)) : bin2 ixD f (cD (.int 1)) ρ = .ok (.int p.2) := by rw [bin2_ap, h, cD_ap, k2_ok, ixP1]
theorem sb2 (h : f ρ = .ok (.int a)) (h2 : g ρ = .ok (.int b)) : bin2 subD f g ρ = .ok (.int (a - b)) := by rw [bin2_ap, h, h2, k2_ok, subD_int]
theorem ad2 (h : f ρ = .ok (.int a)) (h2 : g ρ = .ok (.int b)) : bin2 addD f g ρ = .ok (.int (a + b)) := by rw [bin2_ap, h, h2, k2_ok, addD_int]
theorem ml2 (h : f ρ = .ok (.int a)) (h2 : g ρ = .ok (.int b)) (ha : a.natAbs ≤ 2000) (hb : b.natAbs ≤ 2000) : bin2 mulD f g ρ = .ok (.int (a * b)) := by rw [bin2_ap, h, h2, k2_ok, mul11 ha hb]
theorem md2 {m : Int} (hm : 0 < m) (h : f ρ = .ok (.int a)) (h2 : g ρ = .ok (.int m)) : bin2 modD f g ρ = .ok (.int (a % m)) := by rw [bin2_ap, h, h2, k2_ok, modK m hm]
theorem cns (h : f ρ = .ok d) (h2 : gs ρ = .ok ds) : consA f gs ρ = .ok (d :: ds) := by rw [consA_ap, h, h2, cnK_ok]
theorem cadT (h : f ρ = .ok (.tuple ds)) (h2 : g ρ = .ok (.tuple es)) (hl : ds.length + es.length ≤ 1000) : bin2 addD f g ρ = .ok (.tuple (ds ++ es)) := by rw [bin2_ap, h, h2, k2_ok, addT hl]
theorem slTk {k : Nat} (h : f ρ = .ok (.tuple ds)) (h2 : g ρ = .ok (.int (k : Nat))) : slcG f noP (someP g) ρ = .ok (.tuple (ds.take k)) := by rw [slcG_ap, h, noP_ap, someP_ap, h2, smK_ok, slK_t, cut_take]
theorem slDp {k : Nat} (h : f ρ = .ok (.tuple ds)) (h2 : g ρ = .ok (.int (k : Nat))) (hk : k ≤ ds.length) : slcG f (someP g) noP ρ = .ok (.tuple (ds.drop k)) := by rw [slcG_ap, h, noP_ap, someP_ap, h2, smK_ok, slK_t, cut_drop _ hk]
theorem slDpL {k : Nat} (h : f ρ = .ok (.list ds)) (h2 : g ρ = .ok (.int (k : Nat))) (hk : k ≤ ds.length) : slcG f (someP g) noP ρ = .ok (.list (ds.drop k)) := by rw [slcG_ap, h, noP_ap, someP_ap, h2, smK_ok, slK_l, cut_drop _ hk]
theorem inT (h : f ρ = .ok (.int a)) : callF intG (consA f nilA) ρ = .ok (.int a) := by rw [callF_ap, consA_ap, h, nilA_ap, cnK_ok, R.ok_bind, intG_int]
end
theorem ix_prev {ps : List Pt} {k : Nat} (hk : k < ps.length) : ixD (.tuple (ps.map prD2)) (.int ((k : Nat) - 1)) = .ok (prD2 (cAt ps (prv ps k))) := by
  unfold prv
  by_cases h : k = 0
  · subst h
    rw [if_pos rfl]
    show optR (atD (ps.map prD2) (-1)) = _
    unfold atD
    rw [if_neg (by decide), if_pos (by rw [List.length_map]; omega)]
    rw [show ((-1 : Int) + ((ps.map prD2).length : Nat)).toNat = ps.length - 1 by rw [List.length_map]; omega, List.getElem?_map, cAt_get (by omega)]
    rfl
  · rw [if_neg h, show ((k : Nat) : Int) - 1 = ((k - 1 : Nat) : Int) by omega]
    exact ixT (by omega)
theorem draw_at {ds : List Int} (hg : Gd ds) {n : Nat} (h : n < ds.length) {i : Int} (hi : i = (n : Nat)) : ∃ x : Int, 0 ≤ x ∧ ixD (.list (ds.map .int)) (.int i) = .ok (.int x) := by
  subst hi
  exact ⟨ds[n], (hg _ (List.getElem_mem h)).1, ixD_list_nat (by rw [List.getElem?_map, List.getElem?_eq_getElem h]; rfl)⟩
theorem shape_at {ds : List Int} {n : Nat} (h : n + 3 ≤ ds.length) : ∃ s ∈ shapesL, v__law_shape [.list ((ds.map .int).drop n)] = .ok (shD s) := by
  have e : ∃ a b c r, ds.drop n = a :: b :: c :: r := by
    have hl : (ds.drop n).length = ds.length - n := List.length_drop
    match hd : ds.drop n with
    | [] => rw [hd, List.length_nil] at hl; omega
    | [_] => rw [hd, List.length_singleton] at hl; omega
    | [_, _] => rw [hd] at hl; simp at hl; omega
    | a :: b :: c :: r => exact ⟨a, b, c, r, rfl⟩
  obtain ⟨a, b, c, r, e⟩ := e
  rw [← List.map_drop, e, shape_ks]
  exact ⟨_, shape_in' ⟨Int.emod_nonneg _ (by omega), Int.emod_lt_of_pos _ (by omega)⟩ ⟨Int.emod_nonneg _ (by omega), Int.emod_lt_of_pos _ (by omega)⟩ ⟨Int.emod_nonneg _ (by omega), Int.emod_lt_of_pos _ (by omega)⟩, rfl⟩
theorem half_N {x : Int} (h : 0 ≤ x) : ∃ p : Rat, Bd 20 p ∧ v__law_frac [.int (x % 17 - 4), .int 2] = .ok (N p) := by
  have h1 : 0 ≤ x % 17 := Int.emod_nonneg _ (by omega)
  have h2 : x % 17 < 17 := Int.emod_lt_of_pos _ (by omega)
  have p20 : (2 : Nat) ^ 20 = 1048576 := by decide
  refine ⟨Rat.divInt (x % 17 - 4) 2, ?_, frac_eq (by omega) (Nat.lt_of_lt_of_le (show 2 < 2 ^ 2 by decide) (Nat.pow_le_pow_right (by decide) (by decide)))⟩
  obtain ⟨k1, k2⟩ := divInt_bd (a := x % 17 - 4) (b := 2) (by omega)
  exact ⟨by omega, by omega⟩
/-! ### corners between two shapes -/
theorem nr_h {ps : List Pt} (h : Good ps) : ∀ x ∈ ps, x.1.natAbs ≤ 100 ∧ x.2.natAbs ≤ 100 := fun x hx => by
  have := h.nr x hx
  exact ⟨by have := this.1; omega, by have := this.2; omega⟩
section
variable {a b : List Pt} (ha : One a) (hb : One b) (hab : Two a b)
include ha hb hab
theorem ways_ne : waysP a b ≠ [] := by
  intro z
  have := waysP_len a b
  rw [z, List.length_nil] at this
  have h1 := ha.l3
  have h2 := hb.l3
  rcases Nat.mul_eq_zero.mp this.symm with e | e <;> omega
theorem ways_sm : ∀ x ∈ waysP a b, Sm x := fun x hx => by
  obtain ⟨p, hp, hx⟩ := List.mem_flatMap.mp hx
  obtain ⟨q, hq, rfl⟩ := List.mem_map.mp hx
  have h1 := ha.good.nr p hp
  have h2 := hb.good.nr q hq
  unfold Sm
  have := h1.1
  have := h1.2
  have := h2.1
  have := h2.2
  dsimp only
  omega
theorem corners_ok : v_apart_corners [shD a, shD b] = .ok (shD (hullP (waysP a b))) := by
  show fnK (b_apart_corners [some (.pu (shD a)), some (.pu (shD b))]) = _
  unfold b_apart_corners
  rw [ex_ok (cu1e (d := shD a) rfl (check_ok ha.sf)), ex_ok (cu1e (d := shD b) rfl (check_ok hb.sf)), rtO_ap, fnK_rtK, cu2 (d := shD a) (e := shD b) rfl rfl]
  have := ha.l3
  have := hb.l3
  exact apart_eq (nr_h ha.good) (nr_h hb.good) (by omega) (by omega) (ways_ne ha hb hab)
theorem asides_ok : v_apart_sides [shD a, shD b] = .ok (.tuple ((sidesP (hullP (waysP a b))).map sdD)) := by
  show fnK (b_apart_sides [some (.pu (shD a)), some (.pu (shD b))]) = _
  unfold b_apart_sides
  rw [rtO_ap, fnK_rtK, cu1 (d := shD (hullP (waysP a b))) ((cu2 (d := shD a) (e := shD b) rfl rfl).trans (corners_ok ha hb hab))]
  exact sides_eq hab.good.nr hab.good.l2 hab.good.adj
theorem lround_ok : v__law_round [.list ((waysP a b).map prD2)] = .ok (shD (hullP (waysP a b))) := by
  obtain ⟨h0, t, e1, e2⟩ := hab.wrap
  exact round_ok (ways_sm ha hb hab) e1 e2
end
/-! ### texts -/
noncomputable def okTxt (ps : List Pt) : Bool := match v_text_of_shape [shD ps] with
  | .ok (.str t) => okD (.str t)
  | _ => false
theorem okTxt_all : shapesL.all (fun s => okTxt s) = true := by decide +kernel
theorem okTxt_eq {s : List Pt} (hs : s ∈ shapesL) {t : Str} (h : v_text_of_shape [shD s] = .ok (.str t)) : okD (.str t) = true := by
  have := List.all_eq_true.mp okTxt_all s hs
  unfold okTxt at this
  rw [h] at this
  exact this
noncomputable def ETx (v : Nat) : EnvS → R D := (bin2 addD (bin2 addD (callF strK (consA (bin2 ixD (varD v) (cD (.int 0))) nilA)) (cD (.str ","))) (callF strK (consA (bin2 ixD (varD v) (cD (.int 1))) nilA)))
theorem etx_eq {i j : Nat} {ρ ρ' : EnvS} (h : varD i ρ = varD j ρ') : ETx i ρ = ETx j ρ' := by
  unfold ETx
  simp only [bin2_ap, callF_ap, consA_ap, h, cD_ap, nilA_ap]
theorem comp_rel {i j : Nat} {f g : EnvS → R D} {ρ ρ' : EnvS} (h : ∀ d, f (ρ.set i (some (.pu d))) = g (ρ'.set j (some (.pu d)))) : ∀ ds : List D, compO (nmG i) yesB f ds ρ = compO (nmG j) yesB g ds ρ'
  | [] => rfl
  | d :: ds => by
    unfold compO
    rw [nmG_ap, nmG_ap]
    dsimp only [yesB]
    rw [h d, comp_rel h ds]
theorem shtext_ok {s : List Pt} {t : Str} (h : v_shape_fault [shD s] = .ok .none) (e : v_text_of_shape [shD s] = .ok (.str t)) : v_shape_text [shD s] = .ok (.str t) := by
  show fnK (b_shape_text [some (.pu (shD s))]) = _
  unfold b_shape_text
  rw [ex_ok (cu1e (d := shD s) rfl (check_ok h)), rtO_ap, fnK_rtK, cu1 (d := shD s) rfl, e]
theorem text_fn {s : List Pt} : v_text_of_shape [shD s] = joinL (cD (.str " ")) (lcF (seqF (varD 0)) (nmG 1) yesB (ETx 1) [1]) [some (.pu (shD s)), none] := by
  show fnK (b_text_of_shape [some (.pu (shD s)), none]) = _
  unfold b_text_of_shape
  rw [rtO_ap, fnK_rtK]
  rfl
theorem join_rel {g g' : EnvS → R (List D)} {ρ ρ' : EnvS} (h : g ρ = g' ρ') : joinL (cD (.str " ")) g ρ = joinL (cD (.str " ")) g' ρ' := by
  unfold joinL
  rw [cD_ap, cD_ap, h]
end Mt

namespace Mt
open PySem PySem.Spec PyProof.Rows L2 TD Dn
/-! ### a turn of the law -/
section
variable {ds : List Int} {t : Nat} {a b : List Pt}
theorem un_ok (hl : ds.length = 120) (ht : t < 4) {z0 z3 z4 z5 z6 z7 z8 z9 z10 z11 z12 z13 z14 z15 z16 z17 z18 z19 z20 z21 : Option Sl} : ∃ a ∈ shapesL, ∃ b ∈ shapesL, mUN [z0, some (.pu (.list (ds.map .int))), some (.pu (nD t)), z3, z4, z5, z6, z7, z8, z9, z10, z11, z12, z13, z14, z15, z16, z17, z18, z19, z20, z21] = .nx [z0, some (.pu (.list (ds.map .int))), some (.pu (nD t)), some (.pu (shD a)), some (.pu (shD b)), z5, z6, z7, z8, z9, z10, z11, z12, z13, z14, z15, z16, z17, z18, z19, z20, z21] := by
  obtain ⟨a, ha, e1⟩ := shape_at (ds := ds) (n := 10 * t) (by omega)
  obtain ⟨b, hb, e2⟩ := shape_at (ds := ds) (n := 5 + 10 * t) (by omega)
  refine ⟨a, ha, b, hb, ?_⟩
  have m1 : bin2 mulD (cD (.int 10)) (varD 2) [z0, some (.pu (.list (ds.map .int))), some (.pu (nD t)), z3, z4, z5, z6, z7, z8, z9, z10, z11, z12, z13, z14, z15, z16, z17, z18, z19, z20, z21] = .ok (.int ((10 * t : Nat) : Int)) := by
    rw [show ((10 * t : Nat) : Int) = 10 * (t : Nat) by omega]
    exact ml2 (a := 10) (b := (t : Nat)) rfl rfl (by omega) (by omega)
  have m2 : bin2 addD (cD (.int 5)) (bin2 mulD (cD (.int 10)) (varD 2)) [z0, some (.pu (.list (ds.map .int))), some (.pu (nD t)), z3, z4, z5, z6, z7, z8, z9, z10, z11, z12, z13, z14, z15, z16, z17, z18, z19, z20, z21] = .ok (.int ((5 + 10 * t : Nat) : Int)) := by
    rw [show ((5 + 10 * t : Nat) : Int) = 5 + ((10 * t : Nat) : Int) by omega]
    exact ad2 rfl m1
  have s1 := cu1e (F := v__law_shape) (slDpL (f := varD 1) (ds := ds.map .int) rfl m1 (by rw [List.length_map]; omega)) e1
  have s2 := cu1e (F := v__law_shape) (slDpL (f := varD 1) (ds := ds.map .int) rfl m2 (by rw [List.length_map]; omega)) e2
  unfold mUN
  rw [unO_ap, tupD_ap, cns s1 (cns s2 rfl)]
  rfl
variable (ha : One a) (hb : One b) (hab : Two a b)
include ha
theorem i1_ok {z0 z5 z6 z7 z8 z9 z10 z11 z12 z13 z14 z15 z16 z17 z18 z19 z20 z21 : Option Sl} : tmI1 [z0, some (.pu (.list (ds.map .int))), some (.pu (nD t)), some (.pu (shD a)), some (.pu (shD b)), z5, z6, z7, z8, z9, z10, z11, z12, z13, z14, z15, z16, z17, z18, z19, z20, z21] = .ok false := by
  have v3 : varD 3 [z0, some (.pu (.list (ds.map .int))), some (.pu (nD t)), some (.pu (shD a)), some (.pu (shD b)), z5, z6, z7, z8, z9, z10, z11, z12, z13, z14, z15, z16, z17, z18, z19, z20, z21] = .ok (shD a) := rfl
  unfold tmI1
  refine or_ff (as_eq (cu1e v3 ha.sf) rfl rfl) (or_ff (as_eq (cu1e v3 ha.lf') rfl rfl) (as_eq (cu1e v3 (sidesof_ok ha.sf ha.good)) (cu1e v3 (lsides_eq ha.good.nr ha.good.l2 ha.good.adj)) ?_))
  rw [k2_ok]
  exact ne_flat (flat_sds _) (by decide)
theorem area_ok {z0 z5 z6 z7 z8 z9 z10 z11 z12 z13 z14 z15 z16 z17 z18 z19 z20 z21 : Option Sl} : emS6 [z0, some (.pu (.list (ds.map .int))), some (.pu (nD t)), some (.pu (shD a)), some (.pu (shD b)), z5, z6, z7, z8, z9, z10, z11, z12, z13, z14, z15, z16, z17, z18, z19, z20, z21] = .ok (.int (areaP a)) := by
  have hl := ha.good.l2
  have e : lcF (rng1F (callF lenK (consA (varD 3) nilA))) (nmG 5) yesB (bin2 subD (bin2 mulD (bin2 ixD (bin2 ixD (varD 3) (bin2 subD (varD 5) (cD (.int 1)))) (cD (.int 0))) (bin2 ixD (bin2 ixD (varD 3) (varD 5)) (cD (.int 1)))) (bin2 mulD (bin2 ixD (bin2 ixD (varD 3) (bin2 subD (varD 5) (cD (.int 1)))) (cD (.int 1))) (bin2 ixD (bin2 ixD (varD 3) (varD 5)) (cD (.int 0))))) [5] [z0, some (.pu (.list (ds.map .int))), some (.pu (nD t)), some (.pu (shD a)), some (.pu (shD b)), z5, z6, z7, z8, z9, z10, z11, z12, z13, z14, z15, z16, z17, z18, z19, z20, z21] = .ok ((List.range a.length).map fun i => .int ((cAt a (prv a i)).1 * (cAt a i).2 - (cAt a (prv a i)).2 * (cAt a i).1)) := by
    rw [lcF_ap, rng1F_ap, callF_ap, consA_ap, show varD 3 [z0, some (.pu (.list (ds.map .int))), some (.pu (nD t)), some (.pu (shD a)), some (.pu (shD b)), z5, z6, z7, z8, z9, z10, z11, z12, z13, z14, z15, z16, z17, z18, z19, z20, z21] = .ok (shD a) from rfl, nilA_ap, cnK_ok, R.ok_bind, lenK_tuple, List.length_map, rg_ok (by omega), rg_nD, lcK_ok (by rw [List.length_map, List.length_range]; unfold lineOk; exact decide_eq_true (by omega))]
    refine comp_map (h := fun i => .int ((cAt a (prv a i)).1 * (cAt a i).2 - (cAt a (prv a i)).2 * (cAt a i).1)) (List.range a.length) fun k hk => ?_
    have hk := List.mem_range.mp hk
    show (bin2 subD (bin2 mulD (bin2 ixD (bin2 ixD (varD 3) (bin2 subD (varD 5) (cD (.int 1)))) (cD (.int 0))) (bin2 ixD (bin2 ixD (varD 3) (varD 5)) (cD (.int 1)))) (bin2 mulD (bin2 ixD (bin2 ixD (varD 3) (bin2 subD (varD 5) (cD (.int 1)))) (cD (.int 1))) (bin2 ixD (bin2 ixD (varD 3) (varD 5)) (cD (.int 0))))) [z0, some (.pu (.list (ds.map .int))), some (.pu (nD t)), some (.pu (shD a)), some (.pu (shD b)), some (.pu (nD k)), z6, z7, z8, z9, z10, z11, z12, z13, z14, z15, z16, z17, z18, z19, z20, z21] = _
    have hp : prv a k < a.length := by unfold prv; split <;> omega
    have n1 := ha.good.nr _ (cAt_mem hp)
    have n2 := ha.good.nr _ (cAt_mem hk)
    have i1 : bin2 ixD (varD 3) (bin2 subD (varD 5) (cD (.int 1))) [z0, some (.pu (.list (ds.map .int))), some (.pu (nD t)), some (.pu (shD a)), some (.pu (shD b)), some (.pu (nD k)), z6, z7, z8, z9, z10, z11, z12, z13, z14, z15, z16, z17, z18, z19, z20, z21] = .ok (prD2 (cAt a (prv a k))) := ix_prev hk
    have i2 : bin2 ixD (varD 3) (varD 5) [z0, some (.pu (.list (ds.map .int))), some (.pu (nD t)), some (.pu (shD a)), some (.pu (shD b)), some (.pu (nD k)), z6, z7, z8, z9, z10, z11, z12, z13, z14, z15, z16, z17, z18, z19, z20, z21] = .ok (prD2 (cAt a k)) := ixT hk
    have := n1.1
    have := n1.2
    have := n2.1
    have := n2.2
    exact sb2 (ml2 (px0 i1) (px1 i2) (by omega) (by omega)) (ml2 (px1 i1) (px0 i2) (by omega) (by omega))
  unfold emS6
  rw [callF_ap, e, R.ok_bind]
  show sumK ((List.range a.length).map fun i => PyData.int ((cAt a (prv a i)).1 * (cAt a i).2 - (cAt a (prv a i)).2 * (cAt a i).1)) = _
  rw [show (List.range a.length).map (fun i => PyData.int ((cAt a (prv a i)).1 * (cAt a i).2 - (cAt a (prv a i)).2 * (cAt a i).1)) = ((List.range a.length).map fun i => (cAt a (prv a i)).1 * (cAt a i).2 - (cAt a (prv a i)).2 * (cAt a i).1).map .int by rw [List.map_map]; rfl]
  unfold sumK
  rw [intsOf_map]
  rfl
theorem i2_ok {z0 z5 z7 z8 z9 z10 z11 z12 z13 z14 z15 z16 z17 z18 z19 z20 z21 : Option Sl} : tmI2 [z0, some (.pu (.list (ds.map .int))), some (.pu (nD t)), some (.pu (shD a)), some (.pu (shD b)), z5, some (.pu (.int (areaP a))), z7, z8, z9, z10, z11, z12, z13, z14, z15, z16, z17, z18, z19, z20, z21] = .ok false := by
  have hl := ha.good.l2
  have v3 : varD 3 [z0, some (.pu (.list (ds.map .int))), some (.pu (nD t)), some (.pu (shD a)), some (.pu (shD b)), z5, some (.pu (.int (areaP a))), z7, z8, z9, z10, z11, z12, z13, z14, z15, z16, z17, z18, z19, z20, z21] = .ok (shD a) := rfl
  have o1 := cu1e (F := v_opposite) v3 ha.opp
  have s1 : lstF (srtT (callU 1 v_opposite (consA (varD 3) nilA))) [z0, some (.pu (.list (ds.map .int))), some (.pu (nD t)), some (.pu (shD a)), some (.pu (shD b)), z5, some (.pu (.int (areaP a))), z7, z8, z9, z10, z11, z12, z13, z14, z15, z16, z17, z18, z19, z20, z21] = .ok (.list ((sortP (negP a)).map prD2)) := by
    rw [lstF_ap]
    unfold srtT
    rw [o1, R.ok_bind]
    dsimp only
    rw [pairsOf_map, ← ha.srt]
    rfl
  have c : lcF (seqF (varD 3)) (nmG 7) yesB (tupD (consA (bin2 subD (cD (.int 0)) (bin2 ixD (varD 7) (cD (.int 0)))) (consA (bin2 subD (cD (.int 0)) (bin2 ixD (varD 7) (cD (.int 1)))) nilA))) [7] [z0, some (.pu (.list (ds.map .int))), some (.pu (nD t)), some (.pu (shD a)), some (.pu (shD b)), z5, some (.pu (.int (areaP a))), z7, z8, z9, z10, z11, z12, z13, z14, z15, z16, z17, z18, z19, z20, z21] = .ok ((negP a).map prD2) := by
    rw [lcF_ap, seqF_ap, v3, sqK_t, lcK_ok (by rw [List.length_map]; unfold lineOk; exact decide_eq_true (by omega))]
    have := comp_map (i := 7) (ρ := wipeS [z0, some (.pu (.list (ds.map .int))), some (.pu (nD t)), some (.pu (shD a)), some (.pu (shD b)), z5, some (.pu (.int (areaP a))), z7, z8, z9, z10, z11, z12, z13, z14, z15, z16, z17, z18, z19, z20, z21] [7]) (fe := (tupD (consA (bin2 subD (cD (.int 0)) (bin2 ixD (varD 7) (cD (.int 0)))) (consA (bin2 subD (cD (.int 0)) (bin2 ixD (varD 7) (cD (.int 1)))) nilA)))) (g := prD2) (h := fun p => prD2 (0 - p.1, 0 - p.2)) a (fun p _ => rfl)
    rw [this]
    unfold negP
    rw [List.map_map]
    rfl
  have s2 : lstF (callN sortK (lcF (seqF (varD 3)) (nmG 7) yesB (tupD (consA (bin2 subD (cD (.int 0)) (bin2 ixD (varD 7) (cD (.int 0)))) (consA (bin2 subD (cD (.int 0)) (bin2 ixD (varD 7) (cD (.int 1)))) nilA))) [7])) [z0, some (.pu (.list (ds.map .int))), some (.pu (nD t)), some (.pu (shD a)), some (.pu (shD b)), z5, some (.pu (.int (areaP a))), z7, z8, z9, z10, z11, z12, z13, z14, z15, z16, z17, z18, z19, z20, z21] = .ok (.list ((sortP (negP a)).map prD2)) := by
    rw [lstF_ap, callN_ap, c, R.ok_bind, sortK_pairs, lsK_ok]
  unfold tmI2
  refine or_ff (as_eq (cu1e v3 ha.area) (b := .ok (.int (areaP a))) rfl ?_) (or_ff (as_eq s1 s2 ?_) (or_ff (as_eq (cu1e o1 ha.osf) rfl rfl) (as_eq (cu1e o1 ha.oopp) v3 ?_)))
  · rw [k2_ok, neD_int, decide_eq_true rfl]
    rfl
  · rw [k2_ok]
    exact ne_flat (flat_prl _) (by decide)
  · rw [k2_ok]
    exact ne_flat (flat_prs _) (by decide)
omit ha in
theorem l7_step {p : Pt} {acc : List Pt} (hl : acc.length ≤ 1000) (hlb : b.length ≤ 100) {z0 z5 z6 z9 z10 z11 z12 z13 z14 z15 z16 z17 z18 z19 z20 z21 : Option Sl} : bmL7 [z0, some (.pu (.list (ds.map .int))), some (.pu (nD t)), some (.pu (shD a)), some (.pu (shD b)), z5, z6, some (.pu (prD2 p)), some (.pu (.list (acc.map prD2))), z9, z10, z11, z12, z13, z14, z15, z16, z17, z18, z19, z20, z21] = .nx [z0, some (.pu (.list (ds.map .int))), some (.pu (nD t)), some (.pu (shD a)), some (.pu (shD b)), z5, z6, some (.pu (prD2 p)), some (.pu (.list ((acc ++ b.map fun q => (p.1 - q.1, p.2 - q.2)).map prD2))), z9, z10, z11, z12, z13, z14, z15, z16, z17, z18, z19, z20, z21] := by
  have c : lcF (seqF (varD 4)) (nmG 21) yesB (tupD (consA (bin2 subD (bin2 ixD (varD 7) (cD (.int 0))) (bin2 ixD (varD 21) (cD (.int 0)))) (consA (bin2 subD (bin2 ixD (varD 7) (cD (.int 1))) (bin2 ixD (varD 21) (cD (.int 1)))) nilA))) [21] [z0, some (.pu (.list (ds.map .int))), some (.pu (nD t)), some (.pu (shD a)), some (.pu (shD b)), z5, z6, some (.pu (prD2 p)), some (.pu (.list (acc.map prD2))), z9, z10, z11, z12, z13, z14, z15, z16, z17, z18, z19, z20, z21] = .ok ((b.map fun q => (p.1 - q.1, p.2 - q.2)).map prD2) := by
    rw [lcF_ap, seqF_ap, show varD 4 [z0, some (.pu (.list (ds.map .int))), some (.pu (nD t)), some (.pu (shD a)), some (.pu (shD b)), z5, z6, some (.pu (prD2 p)), some (.pu (.list (acc.map prD2))), z9, z10, z11, z12, z13, z14, z15, z16, z17, z18, z19, z20, z21] = .ok (shD b) from rfl, sqK_t, lcK_ok (by rw [List.length_map]; unfold lineOk; exact decide_eq_true (by omega))]
    have := comp_map (i := 21) (ρ := wipeS [z0, some (.pu (.list (ds.map .int))), some (.pu (nD t)), some (.pu (shD a)), some (.pu (shD b)), z5, z6, some (.pu (prD2 p)), some (.pu (.list (acc.map prD2))), z9, z10, z11, z12, z13, z14, z15, z16, z17, z18, z19, z20, z21] [21]) (fe := (tupD (consA (bin2 subD (bin2 ixD (varD 7) (cD (.int 0))) (bin2 ixD (varD 21) (cD (.int 0)))) (consA (bin2 subD (bin2 ixD (varD 7) (cD (.int 1))) (bin2 ixD (varD 21) (cD (.int 1)))) nilA)))) (g := prD2) (h := fun q => prD2 (p.1 - q.1, p.2 - q.2)) b (fun q _ => rfl)
    rw [this, List.map_map]
    rfl
  unfold bmL7
  refine (st_nx (d := .list ((acc ++ b.map fun q => (p.1 - q.1, p.2 - q.2)).map prD2)) ?_).trans rfl
  rw [lstF_ap, catL_ap, asLF_ap, show varD 8 [z0, some (.pu (.list (ds.map .int))), some (.pu (nD t)), some (.pu (shD a)), some (.pu (shD b)), z5, z6, some (.pu (prD2 p)), some (.pu (.list (acc.map prD2))), z9, z10, z11, z12, z13, z14, z15, z16, z17, z18, z19, z20, z21] = .ok (.list (acc.map prD2)) from rfl, alK_ok, c]
  show lsK (if lineOk _ then .ok _ else .no) = _
  rw [if_pos (by unfold lineOk; simp only [List.length_map]; exact decide_eq_true (by omega)), lsK_ok, ← List.map_append]
omit ha in
theorem l7_loop (hlb : b.length ≤ 20) : ∀ (ps acc : List Pt) {z0 z5 z6 z7 z9 z10 z11 z12 z13 z14 z15 z16 z17 z18 z19 z20 z21 : Option Sl}, acc.length + 20 * ps.length ≤ 1000 → ∃ w7, forO (nmG 7) bmL7 (ps.map prD2) [z0, some (.pu (.list (ds.map .int))), some (.pu (nD t)), some (.pu (shD a)), some (.pu (shD b)), z5, z6, z7, some (.pu (.list (acc.map prD2))), z9, z10, z11, z12, z13, z14, z15, z16, z17, z18, z19, z20, z21] = .nx [z0, some (.pu (.list (ds.map .int))), some (.pu (nD t)), some (.pu (shD a)), some (.pu (shD b)), z5, z6, w7, some (.pu (.list ((acc ++ waysP ps b).map prD2))), z9, z10, z11, z12, z13, z14, z15, z16, z17, z18, z19, z20, z21]
  | [], acc, z0, z5, z6, z7, z9, z10, z11, z12, z13, z14, z15, z16, z17, z18, z19, z20, z21, _ => ⟨z7, by unfold waysP; rw [List.flatMap_nil, List.append_nil]; rfl⟩
  | p :: ps, acc, z0, z5, z6, z7, z9, z10, z11, z12, z13, z14, z15, z16, z17, z18, z19, z20, z21, h => by
    rw [List.length_cons] at h
    obtain ⟨w7, e⟩ := l7_loop hlb ps (acc ++ b.map fun q => (p.1 - q.1, p.2 - q.2)) (z0 := z0) (z5 := z5) (z6 := z6) (z7 := some (.pu (prD2 p))) (z9 := z9) (z10 := z10) (z11 := z11) (z12 := z12) (z13 := z13) (z14 := z14) (z15 := z15) (z16 := z16) (z17 := z17) (z18 := z18) (z19 := z19) (z20 := z20) (z21 := z21) (by rw [List.length_append, List.length_map]; omega)
    refine ⟨w7, ?_⟩
    rw [List.map_cons, forO_cons (ρ1 := [z0, some (.pu (.list (ds.map .int))), some (.pu (nD t)), some (.pu (shD a)), some (.pu (shD b)), z5, z6, some (.pu (prD2 p)), some (.pu (.list (acc.map prD2))), z9, z10, z11, z12, z13, z14, z15, z16, z17, z18, z19, z20, z21]) rfl (l7_step (by omega) (by omega)), e]
    unfold waysP
    rw [List.flatMap_cons, List.append_assoc]
include hb hab
theorem i3_ok {z0 z5 z6 z7 z10 z11 z12 z13 z14 z15 z16 z17 z18 z19 z20 z21 : Option Sl} : tmI3 [z0, some (.pu (.list (ds.map .int))), some (.pu (nD t)), some (.pu (shD a)), some (.pu (shD b)), z5, z6, z7, some (.pu (.list ((waysP a b).map prD2))), some (.pu (shD (hullP (waysP a b)))), z10, z11, z12, z13, z14, z15, z16, z17, z18, z19, z20, z21] = .ok false := by
  have v9 : varD 9 [z0, some (.pu (.list (ds.map .int))), some (.pu (nD t)), some (.pu (shD a)), some (.pu (shD b)), z5, z6, z7, some (.pu (.list ((waysP a b).map prD2))), some (.pu (shD (hullP (waysP a b)))), z10, z11, z12, z13, z14, z15, z16, z17, z18, z19, z20, z21] = .ok (shD (hullP (waysP a b))) := rfl
  unfold tmI3
  refine or_ff (as_eq v9 (cu1e (d := .list ((waysP a b).map prD2)) rfl (lround_ok ha hb hab)) ?_) (as_eq ((cu2 (d := shD a) (e := shD b) rfl rfl).trans (asides_ok ha hb hab)) (cu1e v9 (lsides_eq hab.good.nr hab.good.l2 hab.good.adj)) ?_)
  · rw [k2_ok]
    exact ne_flat (flat_prs _) (by decide)
  · rw [k2_ok]
    exact ne_flat (flat_sds _) (by decide)
omit hb hab
omit ha in
theorem l8_pt (hl : ds.length = 120) (hg : Gd ds) {k : Nat} (hk : k < 8) {z0 z6 z7 z8 z9 z10 z11 z12 z13 z14 z15 z16 z17 z18 z19 z20 z21 : Option Sl} : ∃ p q : Rat, Bd 20 p ∧ Bd 20 q ∧ emL8_0 [z0, some (.pu (.list (ds.map .int))), some (.pu (nD t)), some (.pu (shD a)), some (.pu (shD b)), some (.pu (nD k)), z6, z7, z8, z9, z10, z11, z12, z13, z14, z15, z16, z17, z18, z19, z20, z21] = .ok (ptD2 p q) := by
  obtain ⟨x, hx, ex⟩ := draw_at (ds := ds) hg (n := 50 + k) (by omega) (i := 50 + (k : Nat)) (by omega)
  obtain ⟨y, hy, ey⟩ := draw_at (ds := ds) hg (n := 60 + k) (by omega) (i := 60 + (k : Nat)) (by omega)
  obtain ⟨p, bp, ep⟩ := half_N hx
  obtain ⟨q, bq, eq⟩ := half_N hy
  refine ⟨p, q, bp, bq, ?_⟩
  have d1 : bin2 ixD (varD 1) (bin2 addD (cD (.int 50)) (varD 5)) [z0, some (.pu (.list (ds.map .int))), some (.pu (nD t)), some (.pu (shD a)), some (.pu (shD b)), some (.pu (nD k)), z6, z7, z8, z9, z10, z11, z12, z13, z14, z15, z16, z17, z18, z19, z20, z21] = .ok (.int x) := ex
  have d2 : bin2 ixD (varD 1) (bin2 addD (cD (.int 60)) (varD 5)) [z0, some (.pu (.list (ds.map .int))), some (.pu (nD t)), some (.pu (shD a)), some (.pu (shD b)), some (.pu (nD k)), z6, z7, z8, z9, z10, z11, z12, z13, z14, z15, z16, z17, z18, z19, z20, z21] = .ok (.int y) := ey
  have f1 := (cu2 (F := v__law_frac) (sb2 (md2 (m := 17) (g := cD (.int 17)) (by omega) (inT d1) rfl) (g := cD (.int 4)) rfl) (g := cD (.int 2)) rfl).trans ep
  have f2 := (cu2 (F := v__law_frac) (sb2 (md2 (m := 17) (g := cD (.int 17)) (by omega) (inT d2) rfl) (g := cD (.int 4)) rfl) (g := cD (.int 2)) rfl).trans eq
  unfold emL8_0
  rw [tupD_ap, cns f1 (cns f2 rfl), tuK_2]
theorem l8_step (hl : ds.length = 120) (hg : Gd ds) {k : Nat} (hk : k < 8) {z0 z6 z7 z8 z9 z10 z11 z12 z13 z14 z15 z16 z17 z18 z19 z20 z21 : Option Sl} : ∃ w10, bmL8 [z0, some (.pu (.list (ds.map .int))), some (.pu (nD t)), some (.pu (shD a)), some (.pu (shD b)), some (.pu (nD k)), z6, z7, z8, z9, z10, z11, z12, z13, z14, z15, z16, z17, z18, z19, z20, z21] = .nx [z0, some (.pu (.list (ds.map .int))), some (.pu (nD t)), some (.pu (shD a)), some (.pu (shD b)), some (.pu (nD k)), z6, z7, z8, z9, w10, z11, z12, z13, z14, z15, z16, z17, z18, z19, z20, z21] := by
  obtain ⟨p, q, bp, bq, e⟩ := l8_pt (a := a) (b := b) (t := t) hl hg hk (z0 := z0) (z6 := z6) (z7 := z7) (z8 := z8) (z9 := z9) (z10 := z10) (z11 := z11) (z12 := z12) (z13 := z13) (z14 := z14) (z15 := z15) (z16 := z16) (z17 := z17) (z18 := z18) (z19 := z19) (z20 := z20) (z21 := z21)
  obtain ⟨w, e1, e2⟩ := where_same bp bq ha.good ha.sf
  refine ⟨some (.pu (ptD2 p q)), ?_⟩
  unfold bmL8 mL8_0 mL8_1
  rw [sq_nx (st_nx e)]
  simp only [List.set]
  refine if_skip (?_ : tmL8_1 _ = .ok false)
  unfold tmL8_1
  refine as_eq ((cu2 (d := shD a) (e := ptD2 p q) rfl rfl).trans e1) ((cu2 (d := shD a) (e := ptD2 p q) rfl rfl).trans e2) ?_
  rw [k2_ok]
  exact wh_ne w
theorem l8_loop (hl : ds.length = 120) (hg : Gd ds) : ∀ (ks : List Nat) {z0 z5 z6 z7 z8 z9 z10 z11 z12 z13 z14 z15 z16 z17 z18 z19 z20 z21 : Option Sl}, (∀ k ∈ ks, k < 8) → ∃ w5 w10, forO (nmG 5) bmL8 (ks.map nD) [z0, some (.pu (.list (ds.map .int))), some (.pu (nD t)), some (.pu (shD a)), some (.pu (shD b)), z5, z6, z7, z8, z9, z10, z11, z12, z13, z14, z15, z16, z17, z18, z19, z20, z21] = .nx [z0, some (.pu (.list (ds.map .int))), some (.pu (nD t)), some (.pu (shD a)), some (.pu (shD b)), w5, z6, z7, z8, z9, w10, z11, z12, z13, z14, z15, z16, z17, z18, z19, z20, z21]
  | [], z0, z5, z6, z7, z8, z9, z10, z11, z12, z13, z14, z15, z16, z17, z18, z19, z20, z21, _ => ⟨z5, z10, rfl⟩
  | k :: ks, z0, z5, z6, z7, z8, z9, z10, z11, z12, z13, z14, z15, z16, z17, z18, z19, z20, z21, h => by
    obtain ⟨v10, e⟩ := l8_step ha (b := b) (t := t) hl hg (h k List.mem_cons_self) (z0 := z0) (z6 := z6) (z7 := z7) (z8 := z8) (z9 := z9) (z10 := z10) (z11 := z11) (z12 := z12) (z13 := z13) (z14 := z14) (z15 := z15) (z16 := z16) (z17 := z17) (z18 := z18) (z19 := z19) (z20 := z20) (z21 := z21)
    obtain ⟨w5, w10, e2⟩ := l8_loop hl hg ks (z0 := z0) (z5 := some (.pu (nD k))) (z6 := z6) (z7 := z7) (z8 := z8) (z9 := z9) (z10 := v10) (z11 := z11) (z12 := z12) (z13 := z13) (z14 := z14) (z15 := z15) (z16 := z16) (z17 := z17) (z18 := z18) (z19 := z19) (z20 := z20) (z21 := z21) (fun j hj => h j (List.mem_cons_of_mem _ hj))
    refine ⟨w5, w10, ?_⟩
    rw [List.map_cons, forO_cons (ρ1 := [z0, some (.pu (.list (ds.map .int))), some (.pu (nD t)), some (.pu (shD a)), some (.pu (shD b)), some (.pu (nD k)), z6, z7, z8, z9, z10, z11, z12, z13, z14, z15, z16, z17, z18, z19, z20, z21]) rfl e, e2]
theorem s11_ok {x : Str} (e : v_text_of_shape [shD a] = .ok (.str x)) {z0 z5 z6 z7 z8 z9 z10 z11 z12 z13 z14 z15 z16 z17 z18 z19 z20 z21 : Option Sl} : emS11 [z0, some (.pu (.list (ds.map .int))), some (.pu (nD t)), some (.pu (shD a)), some (.pu (shD b)), z5, z6, z7, z8, z9, z10, z11, z12, z13, z14, z15, z16, z17, z18, z19, z20, z21] = .ok (.str x) := by
  have hl := ha.good.l2
  rw [← e, text_fn]
  unfold emS11
  refine join_rel ?_
  rw [lcF_ap, seqF_ap, show varD 3 [z0, some (.pu (.list (ds.map .int))), some (.pu (nD t)), some (.pu (shD a)), some (.pu (shD b)), z5, z6, z7, z8, z9, z10, z11, z12, z13, z14, z15, z16, z17, z18, z19, z20, z21] = .ok (shD a) from rfl, sqK_t, lcK_ok (by rw [List.length_map]; unfold lineOk; exact decide_eq_true (by omega))]
  rw [lcF_ap, seqF_ap, varD_zero, sqK_t, lcK_ok (by rw [List.length_map]; unfold lineOk; exact decide_eq_true (by omega))]
  exact comp_rel (fun d => etx_eq (i := 7) (j := 1) rfl) (a.map prD2)
theorem i4_ok {x : Str} (e : v_text_of_shape [shD a] = .ok (.str x)) (e2 : v_shape_of [.str x] = .ok (shD a)) (hx : okD (.str x) = true) {z0 z5 z6 z7 z8 z9 z10 z12 z13 z14 z15 z16 z17 z18 z19 z20 z21 : Option Sl} : tmI4 [z0, some (.pu (.list (ds.map .int))), some (.pu (nD t)), some (.pu (shD a)), some (.pu (shD b)), z5, z6, z7, z8, z9, z10, some (.pu (.str x)), z12, z13, z14, z15, z16, z17, z18, z19, z20, z21] = .ok false := by
  have v3 : varD 3 [z0, some (.pu (.list (ds.map .int))), some (.pu (nD t)), some (.pu (shD a)), some (.pu (shD b)), z5, z6, z7, z8, z9, z10, some (.pu (.str x)), z12, z13, z14, z15, z16, z17, z18, z19, z20, z21] = .ok (shD a) := rfl
  have v11 : varD 11 [z0, some (.pu (.list (ds.map .int))), some (.pu (nD t)), some (.pu (shD a)), some (.pu (shD b)), z5, z6, z7, z8, z9, z10, some (.pu (.str x)), z12, z13, z14, z15, z16, z17, z18, z19, z20, z21] = .ok (.str x) := rfl
  unfold tmI4
  refine or_ff (as_eq (cu1e v3 (shtext_ok ha.sf e)) v11 ?_) (as_eq (cu1e v11 e2) v3 ?_)
  · rw [k2_ok]
    exact ne_str hx
  · rw [k2_ok]
    exact ne_flat (flat_prs _) (by decide)
theorem pa_ok (hl : ds.length = 120) (hg : Gd ds) (ht : t < 4) {z0 z5 z6 z7 z8 z9 z10 z11 z12 z13 z14 z15 z16 z17 z18 z19 z20 z21 : Option Sl} : ∃ (i : Nat) (y : Int), i < a.length ∧ 0 ≤ y ∧ mPA [z0, some (.pu (.list (ds.map .int))), some (.pu (nD t)), some (.pu (shD a)), some (.pu (shD b)), z5, z6, z7, z8, z9, z10, z11, z12, z13, z14, z15, z16, z17, z18, z19, z20, z21] = .nx [z0, some (.pu (.list (ds.map .int))), some (.pu (nD t)), some (.pu (shD a)), some (.pu (shD b)), z5, z6, z7, z8, z9, z10, z11, some (.pu (nD i)), some (.pu (.int y)), z14, z15, z16, z17, z18, z19, z20, z21] := by
  have hla := ha.l3
  obtain ⟨x, hx, ex⟩ := draw_at (ds := ds) hg (n := 70 + t) (by omega) (i := 70 + (t : Nat)) (by omega)
  obtain ⟨y, hy, ey⟩ := draw_at (ds := ds) hg (n := 75 + t) (by omega) (i := 75 + (t : Nat)) (by omega)
  have h0 : 0 ≤ x % (a.length : Nat) := Int.emod_nonneg _ (by omega)
  have h1 : x % (a.length : Nat) < (a.length : Nat) := Int.emod_lt_of_pos _ (by omega)
  obtain ⟨i, hi⟩ := Int.eq_ofNat_of_zero_le h0
  refine ⟨i, y, by omega, hy, ?_⟩
  have d1 : bin2 ixD (varD 1) (bin2 addD (cD (.int 70)) (varD 2)) [z0, some (.pu (.list (ds.map .int))), some (.pu (nD t)), some (.pu (shD a)), some (.pu (shD b)), z5, z6, z7, z8, z9, z10, z11, z12, z13, z14, z15, z16, z17, z18, z19, z20, z21] = .ok (.int x) := ex
  have d2 : bin2 ixD (varD 1) (bin2 addD (cD (.int 75)) (varD 2)) [z0, some (.pu (.list (ds.map .int))), some (.pu (nD t)), some (.pu (shD a)), some (.pu (shD b)), z5, z6, z7, z8, z9, z10, z11, z12, z13, z14, z15, z16, z17, z18, z19, z20, z21] = .ok (.int y) := ey
  have l3 : callF lenK (consA (varD 3) nilA) [z0, some (.pu (.list (ds.map .int))), some (.pu (nD t)), some (.pu (shD a)), some (.pu (shD b)), z5, z6, z7, z8, z9, z10, z11, z12, z13, z14, z15, z16, z17, z18, z19, z20, z21] = .ok (.int (a.length : Nat)) := by
    rw [callF_ap, consA_ap, show varD 3 [z0, some (.pu (.list (ds.map .int))), some (.pu (nD t)), some (.pu (shD a)), some (.pu (shD b)), z5, z6, z7, z8, z9, z10, z11, z12, z13, z14, z15, z16, z17, z18, z19, z20, z21] = .ok (shD a) from rfl, nilA_ap, cnK_ok, R.ok_bind, lenK_tuple, List.length_map]
  have m1 := md2 (m := (a.length : Nat)) (by omega) (inT d1) l3
  rw [hi] at m1
  unfold mPA
  rw [parO_ap, cns m1 (cns (inT d2) rfl), parK_ok]
  rfl
theorem s14_ok {i : Nat} {y : Int} (hi : i < a.length) (hy : 0 ≤ y) {z0 z5 z6 z7 z8 z9 z10 z11 z14 z15 z16 z17 z18 z19 z20 z21 : Option Sl} : ∃ v ∈ newV a i, emS14 [z0, some (.pu (.list (ds.map .int))), some (.pu (nD t)), some (.pu (shD a)), some (.pu (shD b)), z5, z6, z7, z8, z9, z10, z11, some (.pu (nD i)), some (.pu (.int y)), z14, z15, z16, z17, z18, z19, z20, z21] = .ok v := by
  have h0 : 0 ≤ y % 8 := Int.emod_nonneg _ (by omega)
  have h1 : y % 8 < 8 := Int.emod_lt_of_pos _ (by omega)
  obtain ⟨j, hj⟩ := Int.eq_ofNat_of_zero_le h0
  have hlt : j < (newV a i).length := by show j < 8; omega
  refine ⟨(newV a i)[j], List.getElem_mem hlt, ?_⟩
  have i6 : bin2 ixD (varD 3) (bin2 subD (varD 12) (cD (.int 1))) [z0, some (.pu (.list (ds.map .int))), some (.pu (nD t)), some (.pu (shD a)), some (.pu (shD b)), z5, z6, z7, z8, z9, z10, z11, some (.pu (nD i)), some (.pu (.int y)), z14, z15, z16, z17, z18, z19, z20, z21] = .ok (prD2 (cAt a (prv a i))) := ix_prev hi
  have n : (newD (consA (tupD (consA (cD (.int 31)) (consA (cD (.int 0)) nilA))) (consA (tupD (consA (cD (.bool true)) (consA (cD (.int 0)) nilA))) (consA (cD .none) (consA (tupD (consA (cD (.int 0)) nilA)) (consA (tupD (consA (un1 negD (cD (.int 9))) (consA (un1 negD (cD (.int 9))) nilA))) (consA (tupD (consA (cD (.int 1)) (consA (cD (.int 1)) nilA))) (consA (bin2 ixD (varD 3) (bin2 subD (varD 12) (cD (.int 1)))) (consA (tupD (consA (cD (.int 20)) (consA (cD (.int 20)) nilA))) nilA))))))))) [z0, some (.pu (.list (ds.map .int))), some (.pu (nD t)), some (.pu (shD a)), some (.pu (shD b)), z5, z6, z7, z8, z9, z10, z11, some (.pu (nD i)), some (.pu (.int y)), z14, z15, z16, z17, z18, z19, z20, z21] = .ok (newV a i) := by
    rw [newD_ap]
    refine (congrArg nwK (cns (d := .tuple [.int 31, .int 0]) rfl (cns (d := .tuple [.bool true, .int 0]) rfl (cns (d := .none) rfl (cns (d := .tuple [.int 0]) rfl (cns (d := .tuple [.int (-9), .int (-9)]) rfl (cns (d := .tuple [.int 1, .int 1]) rfl (cns i6 (cns (d := .tuple [.int 20, .int 20]) rfl rfl))))))))).trans ?_
    rfl
  have m : bin2 modD (varD 13) (cD (.int 8)) [z0, some (.pu (.list (ds.map .int))), some (.pu (nD t)), some (.pu (shD a)), some (.pu (shD b)), z5, z6, z7, z8, z9, z10, z11, some (.pu (nD i)), some (.pu (.int y)), z14, z15, z16, z17, z18, z19, z20, z21] = .ok (.int (j : Nat)) := by
    rw [md2 (m := 8) (a := y) (by omega) rfl rfl, hj]
  unfold emS14
  rw [ixL_ap, n, m, ixLK_ok]
  exact ixD_list_nat (List.getElem?_eq_getElem hlt)
theorem f15_ok {i : Nat} {v : D} (hi : i < a.length) {z0 z5 z6 z7 z8 z9 z10 z11 z13 z15 z16 z17 z18 z19 z20 z21 : Option Sl} : fmL15 [z0, some (.pu (.list (ds.map .int))), some (.pu (nD t)), some (.pu (shD a)), some (.pu (shD b)), z5, z6, z7, z8, z9, z10, z11, some (.pu (nD i)), z13, some (.pu v), z15, z16, z17, z18, z19, z20, z21] = .ok [bent1 a i v, bent2 a i, bent3 a, bent4 a, bent5 a, bent6 a, bent7 a i v] := by
  have hla := ha.l3
  have v3 : varD 3 [z0, some (.pu (.list (ds.map .int))), some (.pu (nD t)), some (.pu (shD a)), some (.pu (shD b)), z5, z6, z7, z8, z9, z10, z11, some (.pu (nD i)), z13, some (.pu v), z15, z16, z17, z18, z19, z20, z21] = .ok (.tuple (a.map prD2)) := rfl
  have v12 : varD 12 [z0, some (.pu (.list (ds.map .int))), some (.pu (nD t)), some (.pu (shD a)), some (.pu (shD b)), z5, z6, z7, z8, z9, z10, z11, some (.pu (nD i)), z13, some (.pu v), z15, z16, z17, z18, z19, z20, z21] = .ok (.int (i : Nat)) := rfl
  have v12s : bin2 addD (varD 12) (cD (.int 1)) [z0, some (.pu (.list (ds.map .int))), some (.pu (nD t)), some (.pu (shD a)), some (.pu (shD b)), z5, z6, z7, z8, z9, z10, z11, some (.pu (nD i)), z13, some (.pu v), z15, z16, z17, z18, z19, z20, z21] = .ok (.int ((i + 1 : Nat) : Int)) := rfl
  have c1 : cD (.int 1) [z0, some (.pu (.list (ds.map .int))), some (.pu (nD t)), some (.pu (shD a)), some (.pu (shD b)), z5, z6, z7, z8, z9, z10, z11, some (.pu (nD i)), z13, some (.pu v), z15, z16, z17, z18, z19, z20, z21] = .ok (.int ((1 : Nat) : Int)) := rfl
  have w : tupD (consA (varD 14) nilA) [z0, some (.pu (.list (ds.map .int))), some (.pu (nD t)), some (.pu (shD a)), some (.pu (shD b)), z5, z6, z7, z8, z9, z10, z11, some (.pu (nD i)), z13, some (.pu v), z15, z16, z17, z18, z19, z20, z21] = .ok (.tuple [v]) := rfl
  have lm : (a.map prD2).length = a.length := List.length_map ..
  have t1 := slTk v3 v12
  have t2 := slDp v3 v12s (by rw [lm]; omega)
  have t3 := slDp v3 v12 (by rw [lm]; omega)
  have t4 := slDp v3 c1 (by rw [lm]; omega)
  have t5 := slTk v3 c1
  have l1 : ((a.map prD2).take i).length ≤ 6 := by rw [List.length_take, lm]; omega
  have l2 : ((a.map prD2).drop (i + 1)).length ≤ 6 := by rw [List.length_drop, lm]; omega
  have l3 : ((a.map prD2).drop i).length ≤ 6 := by rw [List.length_drop, lm]; omega
  have l4 : ((a.map prD2).drop 1).length ≤ 6 := by rw [List.length_drop, lm]; omega
  have l5 : ((a.map prD2).take 1).length ≤ 6 := by rw [List.length_take, lm]; omega
  have b0 := cadT t1 w (by rw [List.length_singleton]; omega)
  have l0 : ((a.map prD2).take i ++ [v]).length ≤ 7 := by rw [List.length_append, List.length_singleton]; omega
  have b1 := cadT b0 t2 (by omega)
  have b2 := cadT t1 t2 (by omega)
  have b3 : revT (varD 3) [z0, some (.pu (.list (ds.map .int))), some (.pu (nD t)), some (.pu (shD a)), some (.pu (shD b)), z5, z6, z7, z8, z9, z10, z11, some (.pu (nD i)), z13, some (.pu v), z15, z16, z17, z18, z19, z20, z21] = .ok (bent3 a) := by
    rfl
  have b4 := cadT t4 t5 (by omega)
  have b5 := cadT v3 t5 (by omega)
  have b6 : lstF (callN lstK (consA (varD 3) nilA)) [z0, some (.pu (.list (ds.map .int))), some (.pu (nD t)), some (.pu (shD a)), some (.pu (shD b)), z5, z6, z7, z8, z9, z10, z11, some (.pu (nD i)), z13, some (.pu v), z15, z16, z17, z18, z19, z20, z21] = .ok (bent6 a) := rfl
  have b7 := cadT b0 t3 (by omega)
  unfold fmL15
  rw [seqF_ap, tupD_ap, cns b1 (cns b2 (cns b3 (cns b4 (cns b5 (cns b6 (cns b7 rfl))))))]
  rfl
omit ha in
theorem l15_step {d : D} (h : Bent d) {z0 z5 z6 z7 z8 z9 z10 z11 z12 z13 z14 z16 z17 z18 z19 z20 z21 : Option Sl} : bmL15 [z0, some (.pu (.list (ds.map .int))), some (.pu (nD t)), some (.pu (shD a)), some (.pu (shD b)), z5, z6, z7, z8, z9, z10, z11, z12, z13, z14, some (.pu d), z16, z17, z18, z19, z20, z21] = .nx [z0, some (.pu (.list (ds.map .int))), some (.pu (nD t)), some (.pu (shD a)), some (.pu (shD b)), z5, z6, z7, z8, z9, z10, z11, z12, z13, z14, some (.pu d), z16, z17, z18, z19, z20, z21] := by
  have v15 : varD 15 [z0, some (.pu (.list (ds.map .int))), some (.pu (nD t)), some (.pu (shD a)), some (.pu (shD b)), z5, z6, z7, z8, z9, z10, z11, z12, z13, z14, some (.pu d), z16, z17, z18, z19, z20, z21] = .ok d := rfl
  obtain ⟨e, g, e1, e2, e3⟩ := bent_err h
  unfold bmL15 mL15_0
  refine if_skip ?_
  unfold tmL15_0
  refine or_ff (as_eq (cu1e v15 rfl) (cu1e v15 rfl) h.ne) (as_eq (a := eqD e (.str "shape")) (b := notND g .none) ?_ ?_ e3)
  · rw [bin2_ap, (cu3 (d := .int 0) (e := d) (c := .none) rfl v15 rfl).trans e1]
    rfl
  · rw [bin2_ap, cu1e v15 e2]
    rfl
omit ha in
theorem l15_loop : ∀ (bs : List D) {z0 z5 z6 z7 z8 z9 z10 z11 z12 z13 z14 z15 z16 z17 z18 z19 z20 z21 : Option Sl}, (∀ d ∈ bs, Bent d) → ∃ w15, forO (nmG 15) bmL15 bs [z0, some (.pu (.list (ds.map .int))), some (.pu (nD t)), some (.pu (shD a)), some (.pu (shD b)), z5, z6, z7, z8, z9, z10, z11, z12, z13, z14, z15, z16, z17, z18, z19, z20, z21] = .nx [z0, some (.pu (.list (ds.map .int))), some (.pu (nD t)), some (.pu (shD a)), some (.pu (shD b)), z5, z6, z7, z8, z9, z10, z11, z12, z13, z14, w15, z16, z17, z18, z19, z20, z21]
  | [], z0, z5, z6, z7, z8, z9, z10, z11, z12, z13, z14, z15, z16, z17, z18, z19, z20, z21, _ => ⟨z15, rfl⟩
  | d :: bs, z0, z5, z6, z7, z8, z9, z10, z11, z12, z13, z14, z15, z16, z17, z18, z19, z20, z21, h => by
    obtain ⟨w15, e⟩ := l15_loop bs (z0 := z0) (z5 := z5) (z6 := z6) (z7 := z7) (z8 := z8) (z9 := z9) (z10 := z10) (z11 := z11) (z12 := z12) (z13 := z13) (z14 := z14) (z15 := some (.pu d)) (z16 := z16) (z17 := z17) (z18 := z18) (z19 := z19) (z20 := z20) (z21 := z21) (fun j hj => h j (List.mem_cons_of_mem _ hj))
    refine ⟨w15, ?_⟩
    rw [forO_cons (ρ1 := [z0, some (.pu (.list (ds.map .int))), some (.pu (nD t)), some (.pu (shD a)), some (.pu (shD b)), z5, z6, z7, z8, z9, z10, z11, z12, z13, z14, some (.pu d), z16, z17, z18, z19, z20, z21]) rfl (l15_step (h d List.mem_cons_self)), e]
omit ha in
theorem bents_of {s : List Pt} (h : chkBs s = true) {i : Nat} (hi : i < s.length) {v : D} (hv : v ∈ newV s i) : ∀ d ∈ [bent1 s i v, bent2 s i, bent3 s, bent4 s, bent5 s, bent6 s, bent7 s i v], Bent d := by
  unfold chkBs at h
  simp only [Bool.and_eq_true] at h
  obtain ⟨h3, h4, h5, h6, h7⟩ := h
  have h7 := List.all_eq_true.mp h7 i (List.mem_range.mpr hi)
  rw [Bool.and_eq_true] at h7
  obtain ⟨h2, h8⟩ := h7
  have h8 := List.all_eq_true.mp h8 v hv
  rw [Bool.and_eq_true] at h8
  intro d hd
  rcases List.mem_cons.mp hd with rfl | hd
  · exact bent_of h8.1
  rcases List.mem_cons.mp hd with rfl | hd
  · exact bent_of h2
  rcases List.mem_cons.mp hd with rfl | hd
  · exact bent_of h3
  rcases List.mem_cons.mp hd with rfl | hd
  · exact bent_of h4
  rcases List.mem_cons.mp hd with rfl | hd
  · exact bent_of h5
  rcases List.mem_cons.mp hd with rfl | hd
  · exact bent_of h6
  rcases List.mem_cons.mp hd with rfl | hd
  · exact bent_of h8.2
  cases hd
end
theorem body_ok {ds : List Int} (hl : ds.length = 120) (hg : Gd ds) {t : Nat} (ht : t < 4) {z0 z3 z4 z5 z6 z7 z8 z9 z10 z11 z12 z13 z14 z15 z16 z17 z18 z19 z20 z21 : Option Sl} : ∃ w3 w4 w5 w6 w7 w8 w9 w10 w11 w12 w13 w14 w15 w16 w17 w18 w19 w20 w21, mBody [z0, some (.pu (.list (ds.map .int))), some (.pu (nD t)), z3, z4, z5, z6, z7, z8, z9, z10, z11, z12, z13, z14, z15, z16, z17, z18, z19, z20, z21] = .nx [z0, some (.pu (.list (ds.map .int))), some (.pu (nD t)), w3, w4, w5, w6, w7, w8, w9, w10, w11, w12, w13, w14, w15, w16, w17, w18, w19, w20, w21] := by
  obtain ⟨a, ia, b, ib, eU⟩ := un_ok (ds := ds) (t := t) hl ht (z0 := z0) (z3 := z3) (z4 := z4) (z5 := z5) (z6 := z6) (z7 := z7) (z8 := z8) (z9 := z9) (z10 := z10) (z11 := z11) (z12 := z12) (z13 := z13) (z14 := z14) (z15 := z15) (z16 := z16) (z17 := z17) (z18 := z18) (z19 := z19) (z20 := z20) (z21 := z21)
  have ha := one_of (one_all a ia)
  have hb := one_of (one_all b ib)
  have hab := two_of (List.all_eq_true.mp (row_all a ia) b ib)
  have la := ha.l3
  have lb := hb.l3
  unfold mBody
  rw [sq_nx eU]
  unfold mI1
  rw [sq_nx (if_skip (i1_ok ha))]
  unfold mS6
  rw [sq_nx (st_nx (area_ok ha))]
  simp only [List.set]
  unfold mI2
  rw [sq_nx (if_skip (i2_ok ha))]
  unfold mS8
  rw [sq_nx (show stO 8 emS8 [z0, some (.pu (.list (ds.map .int))), some (.pu (nD t)), some (.pu (shD a)), some (.pu (shD b)), z5, some (.pu (.int (areaP a))), z7, z8, z9, z10, z11, z12, z13, z14, z15, z16, z17, z18, z19, z20, z21] = .nx [z0, some (.pu (.list (ds.map .int))), some (.pu (nD t)), some (.pu (shD a)), some (.pu (shD b)), z5, some (.pu (.int (areaP a))), z7, some (.pu (.list (([] : List Pt).map prD2))), z9, z10, z11, z12, z13, z14, z15, z16, z17, z18, z19, z20, z21] from rfl)]
  obtain ⟨w7, e7⟩ := l7_loop (ds := ds) (t := t) (a := a) (b := b) (by omega) a [] (z0 := z0) (z5 := z5) (z6 := some (.pu (.int (areaP a)))) (z7 := z7) (z9 := z9) (z10 := z10) (z11 := z11) (z12 := z12) (z13 := z13) (z14 := z14) (z15 := z15) (z16 := z16) (z17 := z17) (z18 := z18) (z19 := z19) (z20 := z20) (z21 := z21) (by rw [List.length_nil]; omega)
  rw [List.nil_append] at e7
  rw [sq_nx (show mL7 [z0, some (.pu (.list (ds.map .int))), some (.pu (nD t)), some (.pu (shD a)), some (.pu (shD b)), z5, some (.pu (.int (areaP a))), z7, some (.pu (.list (([] : List Pt).map prD2))), z9, z10, z11, z12, z13, z14, z15, z16, z17, z18, z19, z20, z21] = .nx [z0, some (.pu (.list (ds.map .int))), some (.pu (nD t)), some (.pu (shD a)), some (.pu (shD b)), z5, some (.pu (.int (areaP a))), w7, some (.pu (.list ((waysP a b).map prD2))), z9, z10, z11, z12, z13, z14, z15, z16, z17, z18, z19, z20, z21] from e7)]
  unfold mS9
  rw [sq_nx (st_nx (show emS9 [z0, some (.pu (.list (ds.map .int))), some (.pu (nD t)), some (.pu (shD a)), some (.pu (shD b)), z5, some (.pu (.int (areaP a))), w7, some (.pu (.list ((waysP a b).map prD2))), z9, z10, z11, z12, z13, z14, z15, z16, z17, z18, z19, z20, z21] = .ok (shD (hullP (waysP a b))) from (cu2 (d := shD a) (e := shD b) rfl rfl).trans (corners_ok ha hb hab)))]
  simp only [List.set]
  unfold mI3
  rw [sq_nx (if_skip (i3_ok ha hb hab))]
  obtain ⟨w5, w10, e8⟩ := l8_loop ha (b := b) (t := t) hl hg (List.range 8) (z0 := z0) (z5 := z5) (z6 := some (.pu (.int (areaP a)))) (z7 := w7) (z8 := some (.pu (.list ((waysP a b).map prD2)))) (z9 := some (.pu (shD (hullP (waysP a b))))) (z10 := z10) (z11 := z11) (z12 := z12) (z13 := z13) (z14 := z14) (z15 := z15) (z16 := z16) (z17 := z17) (z18 := z18) (z19 := z19) (z20 := z20) (z21 := z21) (fun k hk => List.mem_range.mp hk)
  rw [sq_nx (show mL8 [z0, some (.pu (.list (ds.map .int))), some (.pu (nD t)), some (.pu (shD a)), some (.pu (shD b)), z5, some (.pu (.int (areaP a))), w7, some (.pu (.list ((waysP a b).map prD2))), some (.pu (shD (hullP (waysP a b)))), z10, z11, z12, z13, z14, z15, z16, z17, z18, z19, z20, z21] = .nx [z0, some (.pu (.list (ds.map .int))), some (.pu (nD t)), some (.pu (shD a)), some (.pu (shD b)), w5, some (.pu (.int (areaP a))), w7, some (.pu (.list ((waysP a b).map prD2))), some (.pu (shD (hullP (waysP a b)))), w10, z11, z12, z13, z14, z15, z16, z17, z18, z19, z20, z21] from by
    unfold mL8
    rw [loO_ap, show fmL8 [z0, some (.pu (.list (ds.map .int))), some (.pu (nD t)), some (.pu (shD a)), some (.pu (shD b)), z5, some (.pu (.int (areaP a))), w7, some (.pu (.list ((waysP a b).map prD2))), some (.pu (shD (hullP (waysP a b)))), z10, z11, z12, z13, z14, z15, z16, z17, z18, z19, z20, z21] = .ok ((List.range 8).map nD) from rfl, loK_ok]
    exact e8)]
  obtain ⟨x, ex, ex2⟩ := ha.txt
  have okx := okTxt_eq ia ex
  unfold mS11
  rw [sq_nx (st_nx (s11_ok ha ex))]
  simp only [List.set]
  unfold mI4
  rw [sq_nx (if_skip (i4_ok ha ex ex2 okx))]
  obtain ⟨i, y, hi, hy, eP⟩ := pa_ok ha (b := b) (t := t) hl hg ht (z0 := z0) (z5 := w5) (z6 := some (.pu (.int (areaP a)))) (z7 := w7) (z8 := some (.pu (.list ((waysP a b).map prD2)))) (z9 := some (.pu (shD (hullP (waysP a b))))) (z10 := w10) (z11 := some (.pu (.str x))) (z12 := z12) (z13 := z13) (z14 := z14) (z15 := z15) (z16 := z16) (z17 := z17) (z18 := z18) (z19 := z19) (z20 := z20) (z21 := z21)
  rw [sq_nx eP]
  obtain ⟨v, hv, eN⟩ := s14_ok ha (ds := ds) (b := b) (t := t) hi hy (z0 := z0) (z5 := w5) (z6 := some (.pu (.int (areaP a)))) (z7 := w7) (z8 := some (.pu (.list ((waysP a b).map prD2)))) (z9 := some (.pu (shD (hullP (waysP a b))))) (z10 := w10) (z11 := some (.pu (.str x))) (z14 := z14) (z15 := z15) (z16 := z16) (z17 := z17) (z18 := z18) (z19 := z19) (z20 := z20) (z21 := z21)
  unfold mS14
  rw [sq_nx (st_nx eN)]
  simp only [List.set]
  obtain ⟨w15, eB⟩ := l15_loop (ds := ds) (t := t) (a := a) (b := b) _ (z0 := z0) (z5 := w5) (z6 := some (.pu (.int (areaP a)))) (z7 := w7) (z8 := some (.pu (.list ((waysP a b).map prD2)))) (z9 := some (.pu (shD (hullP (waysP a b))))) (z10 := w10) (z11 := some (.pu (.str x))) (z12 := some (.pu (nD i))) (z13 := some (.pu (.int y))) (z14 := some (.pu v)) (z15 := z15) (z16 := z16) (z17 := z17) (z18 := z18) (z19 := z19) (z20 := z20) (z21 := z21) (bents_of (bs_all a ia) hi hv)
  unfold mL15
  rw [loO_ap, f15_ok ha hi, loK_ok, eB]
  exact ⟨_, _, _, _, _, _, _, _, _, _, _, _, _, _, _, _, _, _, _, rfl⟩
theorem turn_loop {ds : List Int} (hl : ds.length = 120) (hg : Gd ds) : ∀ (ks : List Nat) {z0 z2 z3 z4 z5 z6 z7 z8 z9 z10 z11 z12 z13 z14 z15 z16 z17 z18 z19 z20 z21 : Option Sl}, (∀ k ∈ ks, k < 4) → ∃ w2 w3 w4 w5 w6 w7 w8 w9 w10 w11 w12 w13 w14 w15 w16 w17 w18 w19 w20 w21, forO (nmG 2) mBody (ks.map nD) [z0, some (.pu (.list (ds.map .int))), z2, z3, z4, z5, z6, z7, z8, z9, z10, z11, z12, z13, z14, z15, z16, z17, z18, z19, z20, z21] = .nx [z0, some (.pu (.list (ds.map .int))), w2, w3, w4, w5, w6, w7, w8, w9, w10, w11, w12, w13, w14, w15, w16, w17, w18, w19, w20, w21]
  | [], z0, z2, z3, z4, z5, z6, z7, z8, z9, z10, z11, z12, z13, z14, z15, z16, z17, z18, z19, z20, z21, _ => ⟨z2, z3, z4, z5, z6, z7, z8, z9, z10, z11, z12, z13, z14, z15, z16, z17, z18, z19, z20, z21, rfl⟩
  | k :: ks, z0, z2, z3, z4, z5, z6, z7, z8, z9, z10, z11, z12, z13, z14, z15, z16, z17, z18, z19, z20, z21, h => by
    obtain ⟨u3, u4, u5, u6, u7, u8, u9, u10, u11, u12, u13, u14, u15, u16, u17, u18, u19, u20, u21, e⟩ := body_ok (ds := ds) hl hg (h k List.mem_cons_self) (z0 := z0) (z3 := z3) (z4 := z4) (z5 := z5) (z6 := z6) (z7 := z7) (z8 := z8) (z9 := z9) (z10 := z10) (z11 := z11) (z12 := z12) (z13 := z13) (z14 := z14) (z15 := z15) (z16 := z16) (z17 := z17) (z18 := z18) (z19 := z19) (z20 := z20) (z21 := z21)
    obtain ⟨w2, w3, w4, w5, w6, w7, w8, w9, w10, w11, w12, w13, w14, w15, w16, w17, w18, w19, w20, w21, e2⟩ := turn_loop hl hg ks (z0 := z0) (z2 := some (.pu (nD k))) (z3 := u3) (z4 := u4) (z5 := u5) (z6 := u6) (z7 := u7) (z8 := u8) (z9 := u9) (z10 := u10) (z11 := u11) (z12 := u12) (z13 := u13) (z14 := u14) (z15 := u15) (z16 := u16) (z17 := u17) (z18 := u18) (z19 := u19) (z20 := u20) (z21 := u21) (fun j hj => h j (List.mem_cons_of_mem _ hj))
    refine ⟨w2, w3, w4, w5, w6, w7, w8, w9, w10, w11, w12, w13, w14, w15, w16, w17, w18, w19, w20, w21, ?_⟩
    rw [List.map_cons, forO_cons (ρ1 := [z0, some (.pu (.list (ds.map .int))), some (.pu (nD k)), z3, z4, z5, z6, z7, z8, z9, z10, z11, z12, z13, z14, z15, z16, z17, z18, z19, z20, z21]) rfl e, e2]
theorem law_true (ns : List Int) (h : ns.length ≤ 63) : v_law [scrD ns] = .ok (.bool true) := by
  obtain ⟨ds, hl, hg, e⟩ := draws_eq ns 120 (by decide)
  show fnK (b_law [some (.pu (scrD ns)), none, none, none, none, none, none, none, none, none, none, none, none, none, none, none, none, none, none, none, none, none]) = _
  rw [law_parts]
  unfold mS1
  rw [sq_nx (st_nx (show callU 2 v__law_draws (consA (varD 0) (consA (cD (.int 120)) nilA)) [some (.pu (scrD ns)), none, none, none, none, none, none, none, none, none, none, none, none, none, none, none, none, none, none, none, none, none] = _ from (cu2 (d := scrD ns) (e := .int 120) rfl rfl).trans e))]
  simp only [List.set]
  obtain ⟨w2, w3, w4, w5, w6, w7, w8, w9, w10, w11, w12, w13, w14, w15, w16, w17, w18, w19, w20, w21, e2⟩ := turn_loop hl hg (List.range 4) (z0 := some (.pu (scrD ns))) (z2 := none) (z3 := none) (z4 := none) (z5 := none) (z6 := none) (z7 := none) (z8 := none) (z9 := none) (z10 := none) (z11 := none) (z12 := none) (z13 := none) (z14 := none) (z15 := none) (z16 := none) (z17 := none) (z18 := none) (z19 := none) (z20 := none) (z21 := none) (fun k hk => List.mem_range.mp hk)
  rw [sq_nx (show loO (rng1F (cD (.int 4))) (nmG 2) mBody [some (.pu (scrD ns)), some (.pu (.list (ds.map .int))), none, none, none, none, none, none, none, none, none, none, none, none, none, none, none, none, none, none, none, none] = _ from e2)]
  exact tail_ok
end Mt

namespace Wk
open PySem PySem.Spec PyProof.Rows L2 TD Dn
def topS (i : Nat) : Stmt := PySem.Challenge.pw_touchtrue_k01_whole_shapes.main.body.getD i (.Pass ⟨0, 0, 0, 0⟩)
abbrev s__law_draws : Stmt := topS 52
abbrev N__law_draws : List Str := ["script", "many", "draws", "seed", "cell", "number", "k"]
theorem sc__law_draws : FnScope N__law_draws ["script", "many"] (defScope s__law_draws) := ⟨rfl, rfl, rfl, by decide +kernel, rfl, by decide +kernel, by decide +kernel⟩
abbrev s_turn : Stmt := topS 30
abbrev N_turn : List Str := ["one", "two", "three"]
theorem sc_turn : FnScope N_turn ["one", "two", "three"] (defScope s_turn) := ⟨rfl, rfl, rfl, by decide +kernel, rfl, by decide +kernel, by decide +kernel⟩
abbrev s__is_round : Stmt := topS 31
abbrev N__is_round : List Str := ["corners", "number", "many", "one", "two", "three", "other"]
theorem sc__is_round : FnScope N__is_round ["corners", "number"] (defScope s__is_round) := ⟨rfl, rfl, rfl, by decide +kernel, rfl, by decide +kernel, by decide +kernel⟩
abbrev s_is_integer : Stmt := topS 8
abbrev N_is_integer : List Str := ["value"]
theorem sc_is_integer : FnScope N_is_integer ["value"] (defScope s_is_integer) := ⟨rfl, rfl, rfl, by decide +kernel, rfl, by decide +kernel, by decide +kernel⟩
abbrev s_is_whole : Stmt := topS 9
abbrev N_is_whole : List Str := ["value", "low", "most"]
theorem sc_is_whole : FnScope N_is_whole ["value", "low", "most"] (defScope s_is_whole) := ⟨rfl, rfl, rfl, by decide +kernel, rfl, by decide +kernel, by decide +kernel⟩
abbrev s_is_corner : Stmt := topS 29
abbrev N_is_corner : List Str := ["value", "one"]
theorem sc_is_corner : FnScope N_is_corner ["value"] (defScope s_is_corner) := ⟨rfl, rfl, rfl, by decide +kernel, rfl, by decide +kernel, by decide +kernel⟩
abbrev s_shape_fault : Stmt := topS 32
abbrev N_shape_fault : List Str := ["value", "number", "one"]
theorem sc_shape_fault : FnScope N_shape_fault ["value"] (defScope s_shape_fault) := ⟨rfl, rfl, rfl, by decide +kernel, rfl, by decide +kernel, by decide +kernel⟩
abbrev s_check_shape : Stmt := topS 33
abbrev N_check_shape : List Str := ["shape"]
theorem sc_check_shape : FnScope N_check_shape ["shape"] (defScope s_check_shape) := ⟨rfl, rfl, rfl, by decide +kernel, rfl, by decide +kernel, by decide +kernel⟩
abbrev s__half : Stmt := topS 42
abbrev N__half : List Str := ["points", "found", "point"]
theorem sc__half : FnScope N__half ["points"] (defScope s__half) := ⟨rfl, rfl, rfl, by decide +kernel, rfl, by decide +kernel, by decide +kernel⟩
abbrev s_around : Stmt := topS 43
abbrev N_around : List Str := ["points", "row", "point"]
theorem sc_around : FnScope N_around ["points"] (defScope s_around) := ⟨rfl, rfl, rfl, by decide +kernel, rfl, by decide +kernel, by decide +kernel⟩
abbrev s_apart_by : Stmt := topS 44
abbrev N_apart_by : List Str := ["one", "other", "first", "second"]
theorem sc_apart_by : FnScope N_apart_by ["one", "other"] (defScope s_apart_by) := ⟨rfl, rfl, rfl, by decide +kernel, rfl, by decide +kernel, by decide +kernel⟩
abbrev s_apart_corners : Stmt := topS 45
abbrev N_apart_corners : List Str := ["one", "other"]
theorem sc_apart_corners : FnScope N_apart_corners ["one", "other"] (defScope s_apart_corners) := ⟨rfl, rfl, rfl, by decide +kernel, rfl, by decide +kernel, by decide +kernel⟩
abbrev s__law_shape : Stmt := topS 54
abbrev N__law_shape : List Str := ["draws", "kind", "wide", "high"]
theorem sc__law_shape : FnScope N__law_shape ["draws"] (defScope s__law_shape) := ⟨rfl, rfl, rfl, by decide +kernel, rfl, by decide +kernel, by decide +kernel⟩
abbrev s_divisor : Stmt := topS 10
abbrev N_divisor : List Str := ["one", "other"]
theorem sc_divisor : FnScope N_divisor ["one", "other"] (defScope s_divisor) := ⟨rfl, rfl, rfl, by decide +kernel, rfl, by decide +kernel, by decide +kernel⟩
abbrev s_sides_by : Stmt := topS 34
abbrev N_sides_by : List Str := ["corners", "found", "number", "one", "other", "wide", "high", "common", "normal"]
theorem sc_sides_by : FnScope N_sides_by ["corners"] (defScope s_sides_by) := ⟨rfl, rfl, rfl, by decide +kernel, rfl, by decide +kernel, by decide +kernel⟩
abbrev s_sides_of : Stmt := topS 35
abbrev N_sides_of : List Str := ["shape"]
theorem sc_sides_of : FnScope N_sides_of ["shape"] (defScope s_sides_of) := ⟨rfl, rfl, rfl, by decide +kernel, rfl, by decide +kernel, by decide +kernel⟩
abbrev s_is_number : Stmt := topS 11
abbrev N_is_number : List Str := ["value"]
theorem sc_is_number : FnScope N_is_number ["value"] (defScope s_is_number) := ⟨rfl, rfl, rfl, by decide +kernel, rfl, by decide +kernel, by decide +kernel⟩
abbrev s_is_point : Stmt := topS 18
abbrev N_is_point : List Str := ["value"]
theorem sc_is_point : FnScope N_is_point ["value"] (defScope s_is_point) := ⟨rfl, rfl, rfl, by decide +kernel, rfl, by decide +kernel, by decide +kernel⟩
abbrev s_check_points : Stmt := topS 19
abbrev N_check_points : List Str := ["values", "value"]
theorem sc_check_points : FnScope N_check_points ["values"] (defScope s_check_points) := ⟨rfl, rfl, rfl, by decide +kernel, rfl, by decide +kernel, by decide +kernel⟩
abbrev s_order : Stmt := topS 15
abbrev N_order : List Str := ["one", "other", "found"]
theorem sc_order : FnScope N_order ["one", "other"] (defScope s_order) := ⟨rfl, rfl, rfl, by decide +kernel, rfl, by decide +kernel, by decide +kernel⟩
abbrev s_made : Stmt := topS 12
abbrev N_made : List Str := ["above", "below", "common"]
theorem sc_made : FnScope N_made ["above", "below"] (defScope s_made) := ⟨rfl, rfl, rfl, by decide +kernel, rfl, by decide +kernel, by decide +kernel⟩
abbrev s_sum_of : Stmt := topS 13
abbrev N_sum_of : List Str := ["one", "other"]
theorem sc_sum_of : FnScope N_sum_of ["one", "other"] (defScope s_sum_of) := ⟨rfl, rfl, rfl, by decide +kernel, rfl, by decide +kernel, by decide +kernel⟩
abbrev s_product : Stmt := topS 14
abbrev N_product : List Str := ["one", "other"]
theorem sc_product : FnScope N_product ["one", "other"] (defScope s_product) := ⟨rfl, rfl, rfl, by decide +kernel, rfl, by decide +kernel, by decide +kernel⟩
abbrev s_dot_by : Stmt := topS 20
abbrev N_dot_by : List Str := ["one", "other"]
theorem sc_dot_by : FnScope N_dot_by ["one", "other"] (defScope s_dot_by) := ⟨rfl, rfl, rfl, by decide +kernel, rfl, by decide +kernel, by decide +kernel⟩
abbrev s_whole_way : Stmt := topS 21
abbrev N_whole_way : List Str := ["pair"]
theorem sc_whole_way : FnScope N_whole_way ["pair"] (defScope s_whole_way) := ⟨rfl, rfl, rfl, by decide +kernel, rfl, by decide +kernel, by decide +kernel⟩
abbrev s_where_by : Stmt := topS 36
abbrev N_where_by : List Str := ["sides", "point", "found", "normal", "height", "way"]
theorem sc_where_by : FnScope N_where_by ["sides", "point"] (defScope s_where_by) := ⟨rfl, rfl, rfl, by decide +kernel, rfl, by decide +kernel, by decide +kernel⟩
abbrev s_where : Stmt := topS 37
abbrev N_where : List Str := ["shape", "point"]
theorem sc_where : FnScope N_where ["shape", "point"] (defScope s_where) := ⟨rfl, rfl, rfl, by decide +kernel, rfl, by decide +kernel, by decide +kernel⟩
abbrev s_twice_area : Stmt := topS 38
abbrev N_twice_area : List Str := ["shape", "pairs", "one", "other"]
theorem sc_twice_area : FnScope N_twice_area ["shape"] (defScope s_twice_area) := ⟨rfl, rfl, rfl, by decide +kernel, rfl, by decide +kernel, by decide +kernel⟩
abbrev s_least_first : Stmt := topS 39
abbrev N_least_first : List Str := ["corners", "place"]
theorem sc_least_first : FnScope N_least_first ["corners"] (defScope s_least_first) := ⟨rfl, rfl, rfl, by decide +kernel, rfl, by decide +kernel, by decide +kernel⟩
abbrev s_opposite_by : Stmt := topS 40
abbrev N_opposite_by : List Str := ["shape", "one"]
theorem sc_opposite_by : FnScope N_opposite_by ["shape"] (defScope s_opposite_by) := ⟨rfl, rfl, rfl, by decide +kernel, rfl, by decide +kernel, by decide +kernel⟩
abbrev s_opposite : Stmt := topS 41
abbrev N_opposite : List Str := ["shape"]
theorem sc_opposite : FnScope N_opposite ["shape"] (defScope s_opposite) := ⟨rfl, rfl, rfl, by decide +kernel, rfl, by decide +kernel, by decide +kernel⟩
abbrev s_apart_sides : Stmt := topS 46
abbrev N_apart_sides : List Str := ["one", "other"]
theorem sc_apart_sides : FnScope N_apart_sides ["one", "other"] (defScope s_apart_sides) := ⟨rfl, rfl, rfl, by decide +kernel, rfl, by decide +kernel, by decide +kernel⟩
abbrev s_text_of_shape : Stmt := topS 47
abbrev N_text_of_shape : List Str := ["shape", "one"]
theorem sc_text_of_shape : FnScope N_text_of_shape ["shape"] (defScope s_text_of_shape) := ⟨rfl, rfl, rfl, by decide +kernel, rfl, by decide +kernel, by decide +kernel⟩
abbrev s_shape_text : Stmt := topS 48
abbrev N_shape_text : List Str := ["shape"]
theorem sc_shape_text : FnScope N_shape_text ["shape"] (defScope s_shape_text) := ⟨rfl, rfl, rfl, by decide +kernel, rfl, by decide +kernel, by decide +kernel⟩
abbrev s_integer_of : Stmt := topS 16
abbrev N_integer_of : List Str := ["word", "bare", "sign"]
theorem sc_integer_of : FnScope N_integer_of ["word"] (defScope s_integer_of) := ⟨rfl, rfl, rfl, by decide +kernel, rfl, by decide +kernel, by decide +kernel⟩
abbrev s_read_shape : Stmt := topS 49
abbrev N_read_shape : List Str := ["text", "corners", "word", "found", "part"]
theorem sc_read_shape : FnScope N_read_shape ["text"] (defScope s_read_shape) := ⟨rfl, rfl, rfl, by decide +kernel, rfl, by decide +kernel, by decide +kernel⟩
abbrev s_shape_of : Stmt := topS 50
abbrev N_shape_of : List Str := ["text", "found"]
theorem sc_shape_of : FnScope N_shape_of ["text"] (defScope s_shape_of) := ⟨rfl, rfl, rfl, by decide +kernel, rfl, by decide +kernel, by decide +kernel⟩
abbrev s__law_error : Stmt := topS 62
abbrev N__law_error : List Str := ["call", "one", "two"]
theorem sc__law_error : FnScope N__law_error ["call", "one", "two"] (defScope s__law_error) := ⟨rfl, rfl, rfl, by decide +kernel, rfl, by decide +kernel, by decide +kernel⟩
abbrev s__law_turn : Stmt := topS 57
abbrev N__law_turn : List Str := ["one", "two", "three"]
theorem sc__law_turn : FnScope N__law_turn ["one", "two", "three"] (defScope s__law_turn) := ⟨rfl, rfl, rfl, by decide +kernel, rfl, by decide +kernel, by decide +kernel⟩
abbrev s__law_fault : Stmt := topS 58
abbrev N__law_fault : List Str := ["value", "one", "k", "two", "three", "part", "other"]
theorem sc__law_fault : FnScope N__law_fault ["value"] (defScope s__law_fault) := ⟨rfl, rfl, rfl, by decide +kernel, rfl, by decide +kernel, by decide +kernel⟩
abbrev s__law_sides : Stmt := topS 61
abbrev N__law_sides : List Str := ["corners", "found", "k", "one", "two", "way", "by", "normal", "d"]
theorem sc__law_sides : FnScope N__law_sides ["corners"] (defScope s__law_sides) := ⟨rfl, rfl, rfl, by decide +kernel, rfl, by decide +kernel, by decide +kernel⟩
abbrev s__law_round : Stmt := topS 60
abbrev N__law_round : List Str := ["points", "found", "here", "best", "point", "side", "far"]
theorem sc__law_round : FnScope N__law_round ["points"] (defScope s__law_round) := ⟨rfl, rfl, rfl, by decide +kernel, rfl, by decide +kernel, by decide +kernel⟩
abbrev s__law_frac : Stmt := topS 53
abbrev N__law_frac : List Str := ["above", "below", "one", "two"]
theorem sc__law_frac : FnScope N__law_frac ["above", "below"] (defScope s__law_frac) := ⟨rfl, rfl, rfl, by decide +kernel, rfl, by decide +kernel, by decide +kernel⟩
abbrev s__law_where : Stmt := topS 59
abbrev N__law_where : List Str := ["corners", "point", "found", "k", "one", "two", "below", "area"]
theorem sc__law_where : FnScope N__law_where ["corners", "point"] (defScope s__law_where) := ⟨rfl, rfl, rfl, by decide +kernel, rfl, by decide +kernel, by decide +kernel⟩
abbrev s_law : Stmt := topS 63
abbrev N_law : List Str := ["script", "draws", "turn_v", "one", "two", "k", "area", "corner", "ways", "corners", "point", "text", "at", "number", "new", "bent", "star", "fine", "wrong", "texts", "call", "other"]
theorem sc_law : FnScope N_law ["script"] (defScope s_law) := ⟨rfl, rfl, rfl, by decide +kernel, rfl, by decide +kernel, by decide +kernel⟩
structure Txt (K : PySem.W.Frag) (mg : Str → Option Value) where
  n_abs : mg "abs" = none
  n_all : mg "all" = none
  n_bool : mg "bool" = none
  n_enumerate : mg "enumerate" = none
  n_int : mg "int" = none
  n_isinstance : mg "isinstance" = none
  n_len : mg "len" = none
  n_list : mg "list" = none
  n_max : mg "max" = none
  n_min : mg "min" = none
  n_range : mg "range" = none
  n_sorted : mg "sorted" = none
  n_str : mg "str" = none
  n_sum : mg "sum" = none
  n_tuple : mg "tuple" = none
  n_zip : mg "zip" = none
  t_FIGURES : Tok
  c_FIGURES : mg "FIGURES" = some (.str "0123456789" t_FIGURES)
  t_FORM : Addr
  c_FORM : mg "FORM" = some (.ref t_FORM) ∧ ∀ G, Rp K G (.ref t_FORM) c_FORM
  t_IN : Tok
  c_IN : mg "IN" = some (.str "in" t_IN)
  t_MOST_CORNERS : Tok
  c_MOST_CORNERS : mg "MOST_CORNERS" = some (.int 8 t_MOST_CORNERS)
  t_MOST_FIGURES : Tok
  c_MOST_FIGURES : mg "MOST_FIGURES" = some (.int 300 t_MOST_FIGURES)
  t_MOST_SIDE : Tok
  c_MOST_SIDE : mg "MOST_SIDE" = some (.int 30 t_MOST_SIDE)
  t_ON : Tok
  c_ON : mg "ON" = some (.str "on" t_ON)
  t_OUT : Tok
  c_OUT : mg "OUT" = some (.str "out" t_OUT)
  C_BadPoint : Addr
  x_BadPoint : ExcF K mg "BadPoint" C_BadPoint
  C_BadShape : Addr
  x_BadShape : ExcF K mg "BadShape" C_BadShape
  C_BadText : Addr
  x_BadText : ExcF K mg "BadText" C_BadText
  exs : EX K mg ["BadPoint", "BadShape", "BadText"]
  f__law_draws : Addr
  d__law_draws : FuncData
  F__law_draws : Fun K "_law_draws" "_law_draws" s__law_draws f__law_draws d__law_draws
  g__law_draws : mg "_law_draws" = some (.ref f__law_draws)
  b__law_draws : Binds K d__law_draws ["script", "many"] []
  f_turn : Addr
  d_turn : FuncData
  F_turn : Fun K "turn" "turn" s_turn f_turn d_turn
  g_turn : mg "turn" = some (.ref f_turn)
  b_turn : Binds K d_turn ["one", "two", "three"] []
  f__is_round : Addr
  d__is_round : FuncData
  F__is_round : Fun K "_is_round" "_is_round" s__is_round f__is_round d__is_round
  g__is_round : mg "_is_round" = some (.ref f__is_round)
  b__is_round : Binds K d__is_round ["corners", "number"] []
  f_is_integer : Addr
  d_is_integer : FuncData
  F_is_integer : Fun K "is_integer" "is_integer" s_is_integer f_is_integer d_is_integer
  g_is_integer : mg "is_integer" = some (.ref f_is_integer)
  b_is_integer : Binds K d_is_integer ["value"] []
  f_is_whole : Addr
  d_is_whole : FuncData
  F_is_whole : Fun K "is_whole" "is_whole" s_is_whole f_is_whole d_is_whole
  g_is_whole : mg "is_whole" = some (.ref f_is_whole)
  b_is_whole : Binds K d_is_whole ["value", "low", "most"] []
  f_is_corner : Addr
  d_is_corner : FuncData
  F_is_corner : Fun K "is_corner" "is_corner" s_is_corner f_is_corner d_is_corner
  g_is_corner : mg "is_corner" = some (.ref f_is_corner)
  b_is_corner : Binds K d_is_corner ["value"] []
  f_shape_fault : Addr
  d_shape_fault : FuncData
  F_shape_fault : Fun K "shape_fault" "shape_fault" s_shape_fault f_shape_fault d_shape_fault
  g_shape_fault : mg "shape_fault" = some (.ref f_shape_fault)
  b_shape_fault : Binds K d_shape_fault ["value"] []
  f_check_shape : Addr
  d_check_shape : FuncData
  F_check_shape : Fun K "check_shape" "check_shape" s_check_shape f_check_shape d_check_shape
  g_check_shape : mg "check_shape" = some (.ref f_check_shape)
  b_check_shape : Binds K d_check_shape ["shape"] []
  f__half : Addr
  d__half : FuncData
  F__half : Fun K "_half" "_half" s__half f__half d__half
  g__half : mg "_half" = some (.ref f__half)
  b__half : Binds K d__half ["points"] []
  f_around : Addr
  d_around : FuncData
  F_around : Fun K "around" "around" s_around f_around d_around
  g_around : mg "around" = some (.ref f_around)
  b_around : Binds K d_around ["points"] []
  f_apart_by : Addr
  d_apart_by : FuncData
  F_apart_by : Fun K "apart_by" "apart_by" s_apart_by f_apart_by d_apart_by
  g_apart_by : mg "apart_by" = some (.ref f_apart_by)
  b_apart_by : Binds K d_apart_by ["one", "other"] []
  f_apart_corners : Addr
  d_apart_corners : FuncData
  F_apart_corners : Fun K "apart_corners" "apart_corners" s_apart_corners f_apart_corners d_apart_corners
  g_apart_corners : mg "apart_corners" = some (.ref f_apart_corners)
  b_apart_corners : Binds K d_apart_corners ["one", "other"] []
  f__law_shape : Addr
  d__law_shape : FuncData
  F__law_shape : Fun K "_law_shape" "_law_shape" s__law_shape f__law_shape d__law_shape
  g__law_shape : mg "_law_shape" = some (.ref f__law_shape)
  b__law_shape : Binds K d__law_shape ["draws"] []
  f_divisor : Addr
  d_divisor : FuncData
  F_divisor : Fun K "divisor" "divisor" s_divisor f_divisor d_divisor
  g_divisor : mg "divisor" = some (.ref f_divisor)
  b_divisor : Binds K d_divisor ["one", "other"] []
  f_sides_by : Addr
  d_sides_by : FuncData
  F_sides_by : Fun K "sides_by" "sides_by" s_sides_by f_sides_by d_sides_by
  g_sides_by : mg "sides_by" = some (.ref f_sides_by)
  b_sides_by : Binds K d_sides_by ["corners"] []
  f_sides_of : Addr
  d_sides_of : FuncData
  F_sides_of : Fun K "sides_of" "sides_of" s_sides_of f_sides_of d_sides_of
  g_sides_of : mg "sides_of" = some (.ref f_sides_of)
  b_sides_of : Binds K d_sides_of ["shape"] []
  f_is_number : Addr
  d_is_number : FuncData
  F_is_number : Fun K "is_number" "is_number" s_is_number f_is_number d_is_number
  g_is_number : mg "is_number" = some (.ref f_is_number)
  b_is_number : Binds K d_is_number ["value"] []
  f_is_point : Addr
  d_is_point : FuncData
  F_is_point : Fun K "is_point" "is_point" s_is_point f_is_point d_is_point
  g_is_point : mg "is_point" = some (.ref f_is_point)
  b_is_point : Binds K d_is_point ["value"] []
  f_check_points : Addr
  d_check_points : FuncData
  F_check_points : Fun K "check_points" "check_points" s_check_points f_check_points d_check_points
  g_check_points : mg "check_points" = some (.ref f_check_points)
  b_check_points : Binds K d_check_points ["values"] []
  f_order : Addr
  d_order : FuncData
  F_order : Fun K "order" "order" s_order f_order d_order
  g_order : mg "order" = some (.ref f_order)
  b_order : Binds K d_order ["one", "other"] []
  f_made : Addr
  d_made : FuncData
  F_made : Fun K "made" "made" s_made f_made d_made
  g_made : mg "made" = some (.ref f_made)
  b_made : Binds K d_made ["above", "below"] []
  f_sum_of : Addr
  d_sum_of : FuncData
  F_sum_of : Fun K "sum_of" "sum_of" s_sum_of f_sum_of d_sum_of
  g_sum_of : mg "sum_of" = some (.ref f_sum_of)
  b_sum_of : Binds K d_sum_of ["one", "other"] []
  f_product : Addr
  d_product : FuncData
  F_product : Fun K "product" "product" s_product f_product d_product
  g_product : mg "product" = some (.ref f_product)
  b_product : Binds K d_product ["one", "other"] []
  f_dot_by : Addr
  d_dot_by : FuncData
  F_dot_by : Fun K "dot_by" "dot_by" s_dot_by f_dot_by d_dot_by
  g_dot_by : mg "dot_by" = some (.ref f_dot_by)
  b_dot_by : Binds K d_dot_by ["one", "other"] []
  f_whole_way : Addr
  d_whole_way : FuncData
  F_whole_way : Fun K "whole_way" "whole_way" s_whole_way f_whole_way d_whole_way
  g_whole_way : mg "whole_way" = some (.ref f_whole_way)
  b_whole_way : Binds K d_whole_way ["pair"] []
  f_where_by : Addr
  d_where_by : FuncData
  F_where_by : Fun K "where_by" "where_by" s_where_by f_where_by d_where_by
  g_where_by : mg "where_by" = some (.ref f_where_by)
  b_where_by : Binds K d_where_by ["sides", "point"] []
  f_where : Addr
  d_where : FuncData
  F_where : Fun K "where" "where" s_where f_where d_where
  g_where : mg "where" = some (.ref f_where)
  b_where : Binds K d_where ["shape", "point"] []
  f_twice_area : Addr
  d_twice_area : FuncData
  F_twice_area : Fun K "twice_area" "twice_area" s_twice_area f_twice_area d_twice_area
  g_twice_area : mg "twice_area" = some (.ref f_twice_area)
  b_twice_area : Binds K d_twice_area ["shape"] []
  f_least_first : Addr
  d_least_first : FuncData
  F_least_first : Fun K "least_first" "least_first" s_least_first f_least_first d_least_first
  g_least_first : mg "least_first" = some (.ref f_least_first)
  b_least_first : Binds K d_least_first ["corners"] []
  f_opposite_by : Addr
  d_opposite_by : FuncData
  F_opposite_by : Fun K "opposite_by" "opposite_by" s_opposite_by f_opposite_by d_opposite_by
  g_opposite_by : mg "opposite_by" = some (.ref f_opposite_by)
  b_opposite_by : Binds K d_opposite_by ["shape"] []
  f_opposite : Addr
  d_opposite : FuncData
  F_opposite : Fun K "opposite" "opposite" s_opposite f_opposite d_opposite
  g_opposite : mg "opposite" = some (.ref f_opposite)
  b_opposite : Binds K d_opposite ["shape"] []
  f_apart_sides : Addr
  d_apart_sides : FuncData
  F_apart_sides : Fun K "apart_sides" "apart_sides" s_apart_sides f_apart_sides d_apart_sides
  g_apart_sides : mg "apart_sides" = some (.ref f_apart_sides)
  b_apart_sides : Binds K d_apart_sides ["one", "other"] []
  f_text_of_shape : Addr
  d_text_of_shape : FuncData
  F_text_of_shape : Fun K "text_of_shape" "text_of_shape" s_text_of_shape f_text_of_shape d_text_of_shape
  g_text_of_shape : mg "text_of_shape" = some (.ref f_text_of_shape)
  b_text_of_shape : Binds K d_text_of_shape ["shape"] []
  f_shape_text : Addr
  d_shape_text : FuncData
  F_shape_text : Fun K "shape_text" "shape_text" s_shape_text f_shape_text d_shape_text
  g_shape_text : mg "shape_text" = some (.ref f_shape_text)
  b_shape_text : Binds K d_shape_text ["shape"] []
  f_integer_of : Addr
  d_integer_of : FuncData
  F_integer_of : Fun K "integer_of" "integer_of" s_integer_of f_integer_of d_integer_of
  g_integer_of : mg "integer_of" = some (.ref f_integer_of)
  b_integer_of : Binds K d_integer_of ["word"] []
  f_read_shape : Addr
  d_read_shape : FuncData
  F_read_shape : Fun K "read_shape" "read_shape" s_read_shape f_read_shape d_read_shape
  g_read_shape : mg "read_shape" = some (.ref f_read_shape)
  b_read_shape : Binds K d_read_shape ["text"] []
  f_shape_of : Addr
  d_shape_of : FuncData
  F_shape_of : Fun K "shape_of" "shape_of" s_shape_of f_shape_of d_shape_of
  g_shape_of : mg "shape_of" = some (.ref f_shape_of)
  b_shape_of : Binds K d_shape_of ["text"] []
  f__law_error : Addr
  d__law_error : FuncData
  F__law_error : Fun K "_law_error" "_law_error" s__law_error f__law_error d__law_error
  g__law_error : mg "_law_error" = some (.ref f__law_error)
  b__law_error : Binds K d__law_error ["call", "one", "two"] []
  f__law_turn : Addr
  d__law_turn : FuncData
  F__law_turn : Fun K "_law_turn" "_law_turn" s__law_turn f__law_turn d__law_turn
  g__law_turn : mg "_law_turn" = some (.ref f__law_turn)
  b__law_turn : Binds K d__law_turn ["one", "two", "three"] []
  f__law_fault : Addr
  d__law_fault : FuncData
  F__law_fault : Fun K "_law_fault" "_law_fault" s__law_fault f__law_fault d__law_fault
  g__law_fault : mg "_law_fault" = some (.ref f__law_fault)
  b__law_fault : Binds K d__law_fault ["value"] []
  f__law_sides : Addr
  d__law_sides : FuncData
  F__law_sides : Fun K "_law_sides" "_law_sides" s__law_sides f__law_sides d__law_sides
  g__law_sides : mg "_law_sides" = some (.ref f__law_sides)
  b__law_sides : Binds K d__law_sides ["corners"] []
  f__law_round : Addr
  d__law_round : FuncData
  F__law_round : Fun K "_law_round" "_law_round" s__law_round f__law_round d__law_round
  g__law_round : mg "_law_round" = some (.ref f__law_round)
  b__law_round : Binds K d__law_round ["points"] []
  f__law_frac : Addr
  d__law_frac : FuncData
  F__law_frac : Fun K "_law_frac" "_law_frac" s__law_frac f__law_frac d__law_frac
  g__law_frac : mg "_law_frac" = some (.ref f__law_frac)
  b__law_frac : Binds K d__law_frac ["above", "below"] []
  f__law_where : Addr
  d__law_where : FuncData
  F__law_where : Fun K "_law_where" "_law_where" s__law_where f__law_where d__law_where
  g__law_where : mg "_law_where" = some (.ref f__law_where)
  b__law_where : Binds K d__law_where ["corners", "point"] []
  f_law : Addr
  d_law : FuncData
  F_law : Fun K "law" "law" s_law f_law d_law
  g_law : mg "law" = some (.ref f_law)
  b_law : Binds K d_law ["script"] []
section
variable {P : Program} {w : World} {K : PySem.W.Frag} {mg : Str → Option Value} {base : Heap}
theorem ok__law_draws (T : Txt K mg) : FnD P w K mg base 1 T.f__law_draws T.d__law_draws ["script", "many"] v__law_draws := def_ok (k := 0) T.F__law_draws sc__law_draws fun cdv A outer s H E hr tk hp =>
  (ss_cons (s_own 2 sc__law_draws.nd (n_lst a_nil))
  (ss_cons (s_set 3 sc__law_draws.nd d_int)
  (ss_cons (s_for hp (i_seq (d_new (n_slcS (d_var 0) o_none (o_some d_int)))) (g_name 4 sc__law_draws.nd)
  (ss_cons (s_set 5 sc__law_draws.nd (d_blt call_abs cd_abs T.n_abs boot_abs (a_cons (d_var 4) a_nil)))
  (ss_cons (s_set 3 sc__law_draws.nd (d_op op_modN od_mod (d_ty cr_intG cd_intG T.n_int boot_int (a_cons (d_op or_add od_add (d_op or_add od_add (d_op op_mulW od_mul (d_var 3) d_int) (d_var 5)) d_int) a_nil)) d_int))
  (ss_one (s_if (dt_cmp op_ge od_ge (d_var 5) (d_op op_pow od_pow d_int d_int) (nomark _))
  (ss_one (s_for hp (i_rng1 T.n_range d_int) (g_name 6 sc__law_draws.nd)
  (ss_one (s_if (dt_cmp op_gt od_gt (d_var 5) d_int (nomark _))
  (ss_cons (s_app 2 (d_op op_modN od_mod (d_ty cr_intG cd_intG T.n_int boot_int (a_cons (d_var 5) a_nil)) d_int))
  (ss_one (s_set 5 sc__law_draws.nd (d_op op_fdivZ od_fdiv (d_var 5) d_int))))
  ss_nil))))
  (ss_one (s_app 2 (d_op op_modN od_mod (d_op op_fdivZ od_fdiv (d_ty cr_intG cd_intG T.n_int boot_int (a_cons (d_op or_add od_add (d_op op_mulW od_mul (d_var 3) d_int) d_int) a_nil)) d_int) d_int))))))))
  (ss_cons (s_for hp (i_rng1 T.n_range (d_var 1)) (g_name 6 sc__law_draws.nd)
  (ss_one (s_if (dt_cmp (or_lt hr.units0) od_lt (d_bltL cr_len ld_len T.n_len PySem.boot_len (l_own 2)) (d_var 1) (nomark _))
  (ss_cons (s_set 3 sc__law_draws.nd (d_op op_modN od_mod (d_ty cr_intG cd_intG T.n_int boot_int (a_cons (d_op or_add od_add (d_op or_add od_add (d_op op_mulW od_mul (d_var 3) d_int) (d_var 6)) d_int) a_nil)) d_int))
  (ss_one (s_app 2 (d_op op_modN od_mod (d_op op_fdivZ od_fdiv (d_ty cr_intG cd_intG T.n_int boot_int (a_cons (d_var 3) a_nil)) d_int) d_int))))
  ss_nil)))
  (ss_one (s_ret (d_new (n_slc (l_own 2) o_none (o_some (d_var 1))))))))))
theorem ok_turn (T : Txt K mg) : FnD P w K mg base 1 T.f_turn T.d_turn ["one", "two", "three"] v_turn := def_ok (k := 0) T.F_turn sc_turn fun cdv A outer s H E hr tk hp =>
  (ss_one (s_ret (d_op op_sub od_sub (d_op op_mulW od_mul (d_op op_sub od_sub (d_ix (d_var 1) d_int) (d_ix (d_var 0) d_int)) (d_op op_sub od_sub (d_ix (d_var 2) d_int) (d_ix (d_var 1) d_int))) (d_op op_mulW od_mul (d_op op_sub od_sub (d_ix (d_var 1) d_int) (d_ix (d_var 0) d_int)) (d_op op_sub od_sub (d_ix (d_var 2) d_int) (d_ix (d_var 1) d_int))))))
theorem ok__is_round (T : Txt K mg) : FnD P w K mg base 2 T.f__is_round T.d__is_round ["corners", "number"] v__is_round := def_ok (k := 1) T.F__is_round sc__is_round fun cdv A outer s H E hr tk hp =>
  (ss_cons (s_set 2 sc__is_round.nd (d_blt cr_len cd_len T.n_len PySem.boot_len (a_cons (d_var 0) a_nil)))
  (ss_cons (s_unp (d_tup (a_cons (d_ix (d_var 0) (d_op op_sub od_sub (d_var 1) d_int)) (a_cons (d_ix (d_var 0) (d_var 1)) (a_cons (d_ix (d_var 0) (d_op op_modN od_mod (d_op or_add od_add (d_var 1) d_int) (d_var 2))) a_nil)))) (g_tup 3 (gs_cons (g_name 3 sc__is_round.nd) (gs_cons (g_name 4 sc__is_round.nd) (gs_cons (g_name 5 sc__is_round.nd) gs_nil)))))
  (ss_cons (s_if (dt_cmp op_le od_le (d_call (ok_turn T) (hr.mono (by decide)) tk T.g_turn T.F_turn.kp T.b_turn (a_cons (d_var 3) (a_cons (d_var 4) (a_cons (d_var 5) a_nil)))) d_int (nomark _))
  (ss_one (s_ret d_bl))
  ss_nil)
  (ss_one (s_ret (d_bltL (cr_all rfl) ld_all T.n_all (by decide +kernel) (l_new (n_lc (own := [("other", 6)]) sc__is_round.nd (j_of (i_seq (d_var 0))) (blkOk_by (own := [("other", 6)]) (N := N__is_round) (sc := defScope s__is_round) (by decide +kernel)) (fun _ _ _ _ _ => (g_name 6 sc__is_round.nd)) (fun _ _ _ _ _ => (ts_one (dt_cmp (or_notInG (hu65 hr)) od_notInG (d_var 6) (d_tup (a_cons (d_var 3) (a_cons (d_var 4) a_nil))) (by rfl)))) (fun _ _ _ _ _ => (d_cmp op_gt od_gt (d_call (ok_turn T) (hr.mono (by decide)) takes0 T.g_turn T.F_turn.kp T.b_turn (a_cons (d_var 3) (a_cons (d_var 4) (a_cons (d_var 6) a_nil)))) d_int (nomark _)))))))))))
theorem ok_is_integer (T : Txt K mg) : FnD P w K mg base 1 T.f_is_integer T.d_is_integer ["value"] v_is_integer := def_ok (k := 0) T.F_is_integer sc_is_integer fun cdv A outer s H E hr tk hp =>
  (ss_one (s_ret (d_and (d_isi T.n_isinstance T.n_int boot_int (d_var 0)) (d_one (d_not (d_isi T.n_isinstance T.n_bool boot_bool (d_var 0)))))))
theorem ok_is_whole (T : Txt K mg) : FnD P w K mg base 2 T.f_is_whole T.d_is_whole ["value", "low", "most"] v_is_whole := def_ok (k := 1) T.F_is_whole sc_is_whole fun cdv A outer s H E hr tk hp =>
  (ss_one (s_ret (d_and (d_call (ok_is_integer T) (hr.mono (by decide)) tk T.g_is_integer T.F_is_integer.kp T.b_is_integer (a_cons (d_var 0) a_nil)) (d_one (d_chain op_le od_le op_le od_le (d_var 1) (d_var 0) (d_var 2))))))
theorem ok_is_corner (T : Txt K mg) : FnD P w K mg base 3 T.f_is_corner T.d_is_corner ["value"] v_is_corner := def_ok (k := 2) T.F_is_corner sc_is_corner fun cdv A outer s H E hr tk hp =>
  (ss_cons (s_if (dt_w (dw_or (dt_not (dt_val (d_isi T.n_isinstance T.n_tuple boot_tuple (d_var 0)))) (dw_or1 (dt_cmp (op_neD hr.units) od_ne (d_blt cr_len cd_len T.n_len PySem.boot_len (a_cons (d_var 0) a_nil)) d_int (nomark _)))))
  (ss_one (s_ret d_bl))
  ss_nil)
  (ss_one (s_ret (d_bltL (cr_all rfl) ld_all T.n_all (by decide +kernel) (l_new (n_lc (own := [("one", 1)]) sc_is_corner.nd (j_of (i_seq (d_var 0))) (blkOk_by (own := [("one", 1)]) (N := N_is_corner) (sc := defScope s_is_corner) (by decide +kernel)) (fun _ _ _ _ _ => (g_name 1 sc_is_corner.nd)) (fun _ _ _ _ _ => ts_nil) (fun _ _ _ _ _ => (d_call (ok_is_whole T) (hr.mono (by decide)) takes0 T.g_is_whole T.F_is_whole.kp T.b_is_whole (a_cons (d_var 1) (a_cons (d_op op_sub od_sub d_int (d_globI T.c_MOST_SIDE)) (a_cons (d_globI T.c_MOST_SIDE) a_nil)))))))))))
theorem ok_shape_fault (T : Txt K mg) : FnD P w K mg base 4 T.f_shape_fault T.d_shape_fault ["value"] v_shape_fault := def_ok (k := 3) T.F_shape_fault sc_shape_fault fun cdv A outer s H E hr tk hp =>
  (ss_cons (s_if (dt_w (dw_or (dt_not (dt_val (d_isi T.n_isinstance T.n_tuple boot_tuple (d_var 0)))) (dw_or1 (dt_not (dt_chain op_le od_le op_le od_le d_int (d_blt cr_len cd_len T.n_len PySem.boot_len (a_cons (d_var 0) a_nil)) (d_globI T.c_MOST_CORNERS))))))
  (ss_one (s_ret (d_globT T.c_FORM)))
  ss_nil)
  (ss_cons (s_if (dt_not (dt_val (d_bltL (cr_all rfl) ld_all T.n_all (by decide +kernel) (l_new (n_lc (own := [("one", 2)]) sc_shape_fault.nd (j_of (i_seq (d_var 0))) (blkOk_by (own := [("one", 2)]) (N := N_shape_fault) (sc := defScope s_shape_fault) (by decide +kernel)) (fun _ _ _ _ _ => (g_name 2 sc_shape_fault.nd)) (fun _ _ _ _ _ => ts_nil) (fun _ _ _ _ _ => (d_call (ok_is_corner T) (hr.mono (by decide)) takes0 T.g_is_corner T.F_is_corner.kp T.b_is_corner (a_cons (d_var 2) a_nil))))))))
  (ss_one (s_ret (d_globT T.c_FORM)))
  ss_nil)
  (ss_cons (s_if (dt_cmp (op_neD hr.units) od_ne (d_ix (d_var 0) d_int) (d_minP T.n_min (hu65 hr) (d_var 0)) (nomark _))
  (ss_one (s_ret (d_tup (a_cons d_str a_nil))))
  ss_nil)
  (ss_cons (s_for hp (i_rng1 T.n_range (d_blt cr_len cd_len T.n_len PySem.boot_len (a_cons (d_var 0) a_nil))) (g_name 1 sc_shape_fault.nd)
  (ss_one (s_if (dt_not (dt_val (d_call (ok__is_round T) (hr.mono (by decide)) tk T.g__is_round T.F__is_round.kp T.b__is_round (a_cons (d_var 0) (a_cons (d_var 1) a_nil)))))
  (ss_one (s_ret (d_tup (a_cons d_str (a_cons (d_var 1) a_nil)))))
  ss_nil)))
  (ss_one (s_ret d_non))))))
theorem ok_check_shape (T : Txt K mg) : FnD P w K mg base 5 T.f_check_shape T.d_check_shape ["shape"] v_check_shape := def_ok (k := 4) T.F_check_shape sc_check_shape fun cdv A outer s H E hr tk hp =>
  (ss_one (s_if (dt_cmp op_notN od_notN (d_call (ok_shape_fault T) (hr.mono (by decide)) tk T.g_shape_fault T.F_shape_fault.kp T.b_shape_fault (a_cons (d_var 0) a_nil)) d_non (nomark _))
  (ss_one (s_raise T.x_BadShape tk))
  ss_nil))
theorem ok__half (T : Txt K mg) : FnD P w K mg base 2 T.f__half T.d__half ["points"] v__half := def_ok (k := 1) T.F__half sc__half fun cdv A outer s H E hr tk hp =>
  (ss_cons (s_own 1 sc__half.nd (n_lst a_nil))
  (ss_cons (s_for hp (i_seq (d_var 0)) (g_name 2 sc__half.nd)
  (ss_cons (s_while hp (dt_w (dw_and (dt_cmp op_gt od_gt (d_bltL cr_len ld_len T.n_len PySem.boot_len (l_own 1)) d_int (nomark _)) (dw_and1 (dt_cmp op_le od_le (d_call (ok_turn T) (hr.mono (by decide)) tk T.g_turn T.F_turn.kp T.b_turn (a_cons (d_ixL (l_own 1) (d_un un_neg ud_neg d_int)) (a_cons (d_ixL (l_own 1) (d_un un_neg ud_neg d_int)) (a_cons (d_var 2) a_nil)))) d_int (nomark _)))))
  (ss_one (s_pop 1)))
  (ss_one (s_app 1 (d_var 2)))))
  (ss_one (s_retOwn 1))))
theorem ok_around (T : Txt K mg) : FnD P w K mg base 3 T.f_around T.d_around ["points"] v_around := def_ok (k := 2) T.F_around sc_around fun cdv A outer s H E hr tk hp =>
  (ss_cons (s_set 1 sc_around.nd (d_new (n_sdc T.n_sorted hr.units0 (own := [("point", 2)]) sc_around.nd (j_of (i_seq (d_var 0))) (blkOk_by (own := [("point", 2)]) (N := N_around) (sc := defScope s_around) (by decide +kernel)) (fun _ _ _ _ _ => (g_name 2 sc_around.nd)) (fun _ _ _ _ _ => (d_var 2)))))
  (ss_one (s_ret (d_ty call_tuple_of cd_tup T.n_tuple boot_tuple (a_cons (d_op or_add od_add (d_slc (d_call (ok__half T) (hr.mono (by decide)) tk T.g__half T.F__half.kp T.b__half (a_cons (d_var 1) a_nil)) o_none (o_some (d_un un_neg ud_neg d_int))) (d_slc (d_call (ok__half T) (hr.mono (by decide)) tk T.g__half T.F__half.kp T.b__half (a_cons (d_new (n_rev (l_of (d_var 1)))) a_nil)) o_none (o_some (d_un un_neg ud_neg d_int)))) a_nil)))))
theorem ok_apart_by (T : Txt K mg) : FnD P w K mg base 4 T.f_apart_by T.d_apart_by ["one", "other"] v_apart_by := def_ok (k := 3) T.F_apart_by sc_apart_by fun cdv A outer s H E hr tk hp =>
  (ss_one (s_ret (d_call (ok_around T) (hr.mono (by decide)) tk T.g_around T.F_around.kp T.b_around (a_cons (d_new (n_lc2 (own := [("first", 2), ("second", 3)]) [3] sc_apart_by.nd (j_of (i_seq (d_var 0))) (blkOk_by (own := [("first", 2), ("second", 3)]) (N := N_apart_by) (sc := defScope s_apart_by) (by decide +kernel)) (fun _ _ _ _ _ => (g_name 2 sc_apart_by.nd)) (fun _ _ _ _ _ => (i_seq (d_var 1))) (fun _ _ _ _ _ => (g_name 3 sc_apart_by.nd)) (fun _ _ _ _ _ => (d_tup (a_cons (d_op op_sub od_sub (d_ix (d_var 2) d_int) (d_ix (d_var 3) d_int)) (a_cons (d_op op_sub od_sub (d_ix (d_var 2) d_int) (d_ix (d_var 3) d_int)) a_nil)))))) a_nil))))
theorem ok_apart_corners (T : Txt K mg) : FnD P w K mg base 6 T.f_apart_corners T.d_apart_corners ["one", "other"] v_apart_corners := def_ok (k := 5) T.F_apart_corners sc_apart_corners fun cdv A outer s H E hr tk hp =>
  (ss_cons (s_expr (d_call (ok_check_shape T) (hr.mono (by decide)) tk T.g_check_shape T.F_check_shape.kp T.b_check_shape (a_cons (d_var 0) a_nil)))
  (ss_cons (s_expr (d_call (ok_check_shape T) (hr.mono (by decide)) tk T.g_check_shape T.F_check_shape.kp T.b_check_shape (a_cons (d_var 1) a_nil)))
  (ss_one (s_ret (d_call (ok_apart_by T) (hr.mono (by decide)) tk T.g_apart_by T.F_apart_by.kp T.b_apart_by (a_cons (d_var 0) (a_cons (d_var 1) a_nil)))))))
theorem ok__law_shape (T : Txt K mg) : FnD P w K mg base 1 T.f__law_shape T.d__law_shape ["draws"] v__law_shape := def_ok (k := 0) T.F__law_shape sc__law_shape fun cdv A outer s H E hr tk hp =>
  (ss_cons (s_par3 1 2 3 sc__law_shape.nd (a_cons (d_op op_modN od_mod (d_ty cr_intG cd_intG T.n_int boot_int (a_cons (d_ix (d_var 0) d_int) a_nil)) d_int) (a_cons (d_op or_add od_add d_int (d_op op_modN od_mod (d_ty cr_intG cd_intG T.n_int boot_int (a_cons (d_ix (d_var 0) d_int) a_nil)) d_int)) (a_cons (d_op or_add od_add d_int (d_op op_modN od_mod (d_ty cr_intG cd_intG T.n_int boot_int (a_cons (d_ix (d_var 0) d_int) a_nil)) d_int)) a_nil))))
  (ss_cons (s_if (dt_cmp (or_lt hr.units0) od_lt (d_var 1) d_int (nomark _))
  (ss_one (s_ret (d_tup (a_cons (d_tup (a_cons d_int (a_cons d_int a_nil))) (a_cons (d_tup (a_cons (d_var 2) (a_cons d_int a_nil))) (a_cons (d_tup (a_cons (d_var 2) (a_cons (d_var 3) a_nil))) (a_cons (d_tup (a_cons d_int (a_cons (d_var 3) a_nil))) a_nil)))))))
  ss_nil)
  (ss_cons (s_if (dt_cmp (op_eqD hr.units) od_eq (d_var 1) d_int (nomark _))
  (ss_one (s_ret (d_tup (a_cons (d_tup (a_cons d_int (a_cons d_int a_nil))) (a_cons (d_tup (a_cons (d_var 2) (a_cons d_int a_nil))) (a_cons (d_tup (a_cons d_int (a_cons (d_var 3) a_nil))) a_nil))))))
  ss_nil)
  (ss_cons (s_if (dt_cmp (op_eqD hr.units) od_eq (d_var 1) d_int (nomark _))
  (ss_one (s_ret (d_tup (a_cons (d_tup (a_cons d_int (a_cons d_int a_nil))) (a_cons (d_tup (a_cons (d_var 2) (a_cons (d_op op_sub od_sub d_int d_int) a_nil))) (a_cons (d_tup (a_cons (d_op or_add od_add (d_var 2) d_int) (a_cons (d_var 3) a_nil))) a_nil))))))
  ss_nil)
  (ss_cons (s_if (dt_cmp (op_eqD hr.units) od_eq (d_var 1) d_int (nomark _))
  (ss_one (s_ret (d_tup (a_cons (d_tup (a_cons d_int (a_cons d_int a_nil))) (a_cons (d_tup (a_cons d_int (a_cons (d_op op_sub od_sub d_int d_int) a_nil))) (a_cons (d_tup (a_cons d_int (a_cons d_int a_nil))) (a_cons (d_tup (a_cons d_int (a_cons d_int a_nil))) a_nil)))))))
  ss_nil)
  (ss_cons (s_if (dt_cmp (op_eqD hr.units) od_eq (d_var 1) d_int (nomark _))
  (ss_one (s_ret (d_tup (a_cons (d_tup (a_cons d_int (a_cons d_int a_nil))) (a_cons (d_tup (a_cons d_int (a_cons (d_un un_neg ud_neg d_int) a_nil))) (a_cons (d_tup (a_cons (d_var 2) (a_cons (d_un un_neg ud_neg d_int) a_nil))) (a_cons (d_tup (a_cons (d_op or_add od_add (d_var 2) d_int) (a_cons d_int a_nil))) (a_cons (d_tup (a_cons (d_var 2) (a_cons (d_op op_sub od_sub (d_var 3) d_int) a_nil))) (a_cons (d_tup (a_cons d_int (a_cons (d_op op_sub od_sub (d_var 3) d_int) a_nil))) a_nil)))))))))
  ss_nil)
  (ss_one (s_ret (d_if (dt_cmp (op_eqD hr.units) od_eq (d_var 1) d_int (nomark _)) (d_tup (a_cons (d_tup (a_cons d_int (a_cons d_int a_nil))) (a_cons (d_tup (a_cons (d_var 2) (a_cons d_int a_nil))) (a_cons (d_tup (a_cons (d_op or_add od_add (d_var 2) d_int) (a_cons (d_var 3) a_nil))) (a_cons (d_tup (a_cons d_int (a_cons (d_var 3) a_nil))) a_nil))))) (d_tup (a_cons (d_tup (a_cons d_int (a_cons d_int a_nil))) (a_cons (d_tup (a_cons (d_var 2) (a_cons (d_un un_neg ud_neg d_int) a_nil))) (a_cons (d_tup (a_cons (d_var 2) (a_cons (d_var 3) a_nil))) (a_cons (d_tup (a_cons d_int (a_cons (d_op or_add od_add (d_var 3) d_int) a_nil))) a_nil))))))))))))))
theorem ok_divisor (T : Txt K mg) : FnD P w K mg base 1 T.f_divisor T.d_divisor ["one", "other"] v_divisor := def_ok (k := 0) T.F_divisor sc_divisor fun cdv A outer s H E hr tk hp =>
  (ss_cons (s_par 0 1 sc_divisor.nd (a_cons (d_blt call_abs cd_abs T.n_abs boot_abs (a_cons (d_var 0) a_nil)) (a_cons (d_blt call_abs cd_abs T.n_abs boot_abs (a_cons (d_var 1) a_nil)) a_nil)))
  (ss_cons (s_while hp (dt_cmp op_gt od_gt (d_var 1) d_int (nomark _))
  (ss_one (s_par 0 1 sc_divisor.nd (a_cons (d_var 1) (a_cons (d_op op_modN od_mod (d_var 0) (d_var 1)) a_nil)))))
  (ss_one (s_ret (d_var 0)))))
theorem ok_sides_by (T : Txt K mg) : FnD P w K mg base 2 T.f_sides_by T.d_sides_by ["corners"] v_sides_by := def_ok (k := 1) T.F_sides_by sc_sides_by fun cdv A outer s H E hr tk hp =>
  (ss_cons (s_own 1 sc_sides_by.nd (n_lst a_nil))
  (ss_cons (s_for hp (i_enumA T.n_enumerate (d_var 0)) (g_tup 2 (gs_cons (g_name 2 sc_sides_by.nd) (gs_cons (g_name 3 sc_sides_by.nd) gs_nil)))
  (ss_cons (s_set 4 sc_sides_by.nd (d_ix (d_var 0) (d_op op_modN od_mod (d_op or_add od_add (d_var 2) d_int) (d_blt cr_len cd_len T.n_len PySem.boot_len (a_cons (d_var 0) a_nil)))))
  (ss_cons (s_par 5 6 sc_sides_by.nd (a_cons (d_op op_sub od_sub (d_ix (d_var 4) d_int) (d_ix (d_var 3) d_int)) (a_cons (d_op op_sub od_sub (d_ix (d_var 4) d_int) (d_ix (d_var 3) d_int)) a_nil)))
  (ss_cons (s_set 7 sc_sides_by.nd (d_call (ok_divisor T) (hr.mono (by decide)) tk T.g_divisor T.F_divisor.kp T.b_divisor (a_cons (d_var 5) (a_cons (d_var 6) a_nil))))
  (ss_cons (s_set 8 sc_sides_by.nd (d_tup (a_cons (d_op op_fdivZ od_fdiv (d_var 6) (d_var 7)) (a_cons (d_op op_sub od_sub d_int (d_op op_fdivZ od_fdiv (d_var 5) (d_var 7))) a_nil))))
  (ss_one (s_app 1 (d_tup (a_cons (d_var 8) (a_cons (d_op or_add od_add (d_op op_mulW od_mul (d_ix (d_var 8) d_int) (d_ix (d_var 3) d_int)) (d_op op_mulW od_mul (d_ix (d_var 8) d_int) (d_ix (d_var 3) d_int))) a_nil))))))))))
  (ss_one (s_ret (d_tyL call_tuple_of ld_tup T.n_tuple boot_tuple (l_own 1))))))
theorem ok_sides_of (T : Txt K mg) : FnD P w K mg base 6 T.f_sides_of T.d_sides_of ["shape"] v_sides_of := def_ok (k := 5) T.F_sides_of sc_sides_of fun cdv A outer s H E hr tk hp =>
  (ss_cons (s_expr (d_call (ok_check_shape T) (hr.mono (by decide)) tk T.g_check_shape T.F_check_shape.kp T.b_check_shape (a_cons (d_var 0) a_nil)))
  (ss_one (s_ret (d_call (ok_sides_by T) (hr.mono (by decide)) tk T.g_sides_by T.F_sides_by.kp T.b_sides_by (a_cons (d_var 0) a_nil)))))
theorem ok_is_number (T : Txt K mg) : FnD P w K mg base 2 T.f_is_number T.d_is_number ["value"] v_is_number := def_ok (k := 1) T.F_is_number sc_is_number fun cdv A outer s H E hr tk hp =>
  (ss_cons (s_if (dt_w (dw_or (dt_not (dt_val (d_isi T.n_isinstance T.n_tuple boot_tuple (d_var 0)))) (dw_or (dt_cmp (op_neD hr.units) od_ne (d_blt cr_len cd_len T.n_len PySem.boot_len (a_cons (d_var 0) a_nil)) d_int (nomark _)) (dw_or (dt_not (dt_val (d_call (ok_is_integer T) (hr.mono (by decide)) tk T.g_is_integer T.F_is_integer.kp T.b_is_integer (a_cons (d_ix (d_var 0) d_int) a_nil)))) (dw_or1 (dt_not (dt_val (d_call (ok_is_integer T) (hr.mono (by decide)) tk T.g_is_integer T.F_is_integer.kp T.b_is_integer (a_cons (d_ix (d_var 0) d_int) a_nil)))))))))
  (ss_one (s_ret d_bl))
  ss_nil)
  (ss_one (s_ret (d_and (d_cmp op_ge od_ge (d_ix (d_var 0) d_int) d_int (nomark _)) (d_one (d_cmp (op_eqD hr.units) od_eq (d_call (ok_divisor T) (hr.mono (by decide)) tk T.g_divisor T.F_divisor.kp T.b_divisor (a_cons (d_ix (d_var 0) d_int) (a_cons (d_ix (d_var 0) d_int) a_nil))) d_int (nomark _)))))))
theorem ok_is_point (T : Txt K mg) : FnD P w K mg base 3 T.f_is_point T.d_is_point ["value"] v_is_point := def_ok (k := 2) T.F_is_point sc_is_point fun cdv A outer s H E hr tk hp =>
  (ss_one (s_ret (d_and (d_isi T.n_isinstance T.n_tuple boot_tuple (d_var 0)) (d_and (d_cmp (op_eqD hr.units) od_eq (d_blt cr_len cd_len T.n_len PySem.boot_len (a_cons (d_var 0) a_nil)) d_int (nomark _)) (d_and (d_call (ok_is_number T) (hr.mono (by decide)) tk T.g_is_number T.F_is_number.kp T.b_is_number (a_cons (d_ix (d_var 0) d_int) a_nil)) (d_one (d_call (ok_is_number T) (hr.mono (by decide)) tk T.g_is_number T.F_is_number.kp T.b_is_number (a_cons (d_ix (d_var 0) d_int) a_nil))))))))
theorem ok_check_points (T : Txt K mg) : FnD P w K mg base 4 T.f_check_points T.d_check_points ["values"] v_check_points := def_ok (k := 3) T.F_check_points sc_check_points fun cdv A outer s H E hr tk hp =>
  (ss_one (s_if (dt_not (dt_val (d_bltL (cr_all rfl) ld_all T.n_all (by decide +kernel) (l_new (n_lc (own := [("value", 1)]) sc_check_points.nd (j_of (i_seq (d_var 0))) (blkOk_by (own := [("value", 1)]) (N := N_check_points) (sc := defScope s_check_points) (by decide +kernel)) (fun _ _ _ _ _ => (g_name 1 sc_check_points.nd)) (fun _ _ _ _ _ => ts_nil) (fun _ _ _ _ _ => (d_call (ok_is_point T) (hr.mono (by decide)) takes0 T.g_is_point T.F_is_point.kp T.b_is_point (a_cons (d_var 1) a_nil))))))))
  (ss_one (s_raise T.x_BadPoint tk))
  ss_nil))
theorem ok_order (T : Txt K mg) : FnD P w K mg base 1 T.f_order T.d_order ["one", "other"] v_order := def_ok (k := 0) T.F_order sc_order fun cdv A outer s H E hr tk hp =>
  (ss_cons (s_set 2 sc_order.nd (d_op op_sub od_sub (d_op op_mulW od_mul (d_ix (d_var 0) d_int) (d_ix (d_var 1) d_int)) (d_op op_mulW od_mul (d_ix (d_var 1) d_int) (d_ix (d_var 0) d_int))))
  (ss_one (s_ret (d_if (dt_cmp (op_eqD hr.units) od_eq (d_var 2) d_int (nomark _)) d_int (d_if (dt_cmp op_gt od_gt (d_var 2) d_int (nomark _)) d_int (d_un un_neg ud_neg d_int))))))
theorem ok_made (T : Txt K mg) : FnD P w K mg base 2 T.f_made T.d_made ["above", "below"] v_made := def_ok (k := 1) T.F_made sc_made fun cdv A outer s H E hr tk hp =>
  (ss_cons (s_set 2 sc_made.nd (d_call (ok_divisor T) (hr.mono (by decide)) tk T.g_divisor T.F_divisor.kp T.b_divisor (a_cons (d_var 0) (a_cons (d_var 1) a_nil))))
  (ss_cons (s_if (dt_cmp (or_lt hr.units0) od_lt (d_var 1) d_int (nomark _))
  (ss_one (s_set 2 sc_made.nd (d_op op_sub od_sub d_int (d_var 2))))
  ss_nil)
  (ss_one (s_ret (d_tup (a_cons (d_op op_fdivZ od_fdiv (d_var 0) (d_var 2)) (a_cons (d_op op_fdivZ od_fdiv (d_var 1) (d_var 2)) a_nil)))))))
theorem ok_sum_of (T : Txt K mg) : FnD P w K mg base 3 T.f_sum_of T.d_sum_of ["one", "other"] v_sum_of := def_ok (k := 2) T.F_sum_of sc_sum_of fun cdv A outer s H E hr tk hp =>
  (ss_one (s_ret (d_call (ok_made T) (hr.mono (by decide)) tk T.g_made T.F_made.kp T.b_made (a_cons (d_op or_add od_add (d_op op_mulW od_mul (d_ix (d_var 0) d_int) (d_ix (d_var 1) d_int)) (d_op op_mulW od_mul (d_ix (d_var 1) d_int) (d_ix (d_var 0) d_int))) (a_cons (d_op op_mulW od_mul (d_ix (d_var 0) d_int) (d_ix (d_var 1) d_int)) a_nil)))))
theorem ok_product (T : Txt K mg) : FnD P w K mg base 3 T.f_product T.d_product ["one", "other"] v_product := def_ok (k := 2) T.F_product sc_product fun cdv A outer s H E hr tk hp =>
  (ss_one (s_ret (d_call (ok_made T) (hr.mono (by decide)) tk T.g_made T.F_made.kp T.b_made (a_cons (d_op op_mulW od_mul (d_ix (d_var 0) d_int) (d_ix (d_var 1) d_int)) (a_cons (d_op op_mulW od_mul (d_ix (d_var 0) d_int) (d_ix (d_var 1) d_int)) a_nil)))))
theorem ok_dot_by (T : Txt K mg) : FnD P w K mg base 4 T.f_dot_by T.d_dot_by ["one", "other"] v_dot_by := def_ok (k := 3) T.F_dot_by sc_dot_by fun cdv A outer s H E hr tk hp =>
  (ss_one (s_ret (d_call (ok_sum_of T) (hr.mono (by decide)) tk T.g_sum_of T.F_sum_of.kp T.b_sum_of (a_cons (d_call (ok_product T) (hr.mono (by decide)) tk T.g_product T.F_product.kp T.b_product (a_cons (d_ix (d_var 0) d_int) (a_cons (d_ix (d_var 1) d_int) a_nil))) (a_cons (d_call (ok_product T) (hr.mono (by decide)) tk T.g_product T.F_product.kp T.b_product (a_cons (d_ix (d_var 0) d_int) (a_cons (d_ix (d_var 1) d_int) a_nil))) a_nil)))))
theorem ok_whole_way (T : Txt K mg) : FnD P w K mg base 1 T.f_whole_way T.d_whole_way ["pair"] v_whole_way := def_ok (k := 0) T.F_whole_way sc_whole_way fun cdv A outer s H E hr tk hp =>
  (ss_one (s_ret (d_tup (a_cons (d_tup (a_cons (d_ix (d_var 0) d_int) (a_cons d_int a_nil))) (a_cons (d_tup (a_cons (d_ix (d_var 0) d_int) (a_cons d_int a_nil))) a_nil)))))
theorem ok_where_by (T : Txt K mg) : FnD P w K mg base 5 T.f_where_by T.d_where_by ["sides", "point"] v_where_by := def_ok (k := 4) T.F_where_by sc_where_by fun cdv A outer s H E hr tk hp =>
  (ss_cons (s_set 2 sc_where_by.nd (d_globS T.c_IN))
  (ss_cons (s_for hp (i_seq (d_var 0)) (g_tup 2 (gs_cons (g_name 3 sc_where_by.nd) (gs_cons (g_name 4 sc_where_by.nd) gs_nil)))
  (ss_cons (s_set 5 sc_where_by.nd (d_call (ok_order T) (hr.mono (by decide)) tk T.g_order T.F_order.kp T.b_order (a_cons (d_call (ok_dot_by T) (hr.mono (by decide)) tk T.g_dot_by T.F_dot_by.kp T.b_dot_by (a_cons (d_call (ok_whole_way T) (hr.mono (by decide)) tk T.g_whole_way T.F_whole_way.kp T.b_whole_way (a_cons (d_var 3) a_nil)) (a_cons (d_var 1) a_nil))) (a_cons (d_tup (a_cons (d_var 4) (a_cons d_int a_nil))) a_nil))))
  (ss_cons (s_if (dt_cmp op_gt od_gt (d_var 5) d_int (nomark _))
  (ss_one (s_ret (d_globS T.c_OUT)))
  ss_nil)
  (ss_one (s_if (dt_cmp (op_eqD hr.units) od_eq (d_var 5) d_int (nomark _))
  (ss_one (s_set 2 sc_where_by.nd (d_globS T.c_ON)))
  ss_nil)))))
  (ss_one (s_ret (d_var 2)))))
theorem ok_where (T : Txt K mg) : FnD P w K mg base 6 T.f_where T.d_where ["shape", "point"] v_where := def_ok (k := 5) T.F_where sc_where fun cdv A outer s H E hr tk hp =>
  (ss_cons (s_expr (d_call (ok_check_shape T) (hr.mono (by decide)) tk T.g_check_shape T.F_check_shape.kp T.b_check_shape (a_cons (d_var 0) a_nil)))
  (ss_cons (s_expr (d_call (ok_check_points T) (hr.mono (by decide)) tk T.g_check_points T.F_check_points.kp T.b_check_points (a_cons (d_tup (a_cons (d_var 1) a_nil)) a_nil)))
  (ss_one (s_ret (d_call (ok_where_by T) (hr.mono (by decide)) tk T.g_where_by T.F_where_by.kp T.b_where_by (a_cons (d_call (ok_sides_by T) (hr.mono (by decide)) tk T.g_sides_by T.F_sides_by.kp T.b_sides_by (a_cons (d_var 0) a_nil)) (a_cons (d_var 1) a_nil)))))))
theorem ok_twice_area (T : Txt K mg) : FnD P w K mg base 6 T.f_twice_area T.d_twice_area ["shape"] v_twice_area := def_ok (k := 5) T.F_twice_area sc_twice_area fun cdv A outer s H E hr tk hp =>
  (ss_cons (s_expr (d_call (ok_check_shape T) (hr.mono (by decide)) tk T.g_check_shape T.F_check_shape.kp T.b_check_shape (a_cons (d_var 0) a_nil)))
  (ss_zipSum (own := [("one", 2), ("other", 3)]) 1 (cr_sum rfl) ld_sum T.n_sum (by decide +kernel) T.n_zip sc_twice_area.nd (d_var 0) (d_op or_add od_add (d_slc (d_var 0) (o_some d_int) o_none) (d_slc (d_var 0) o_none (o_some d_int))) (blkOk_by (own := [("one", 2), ("other", 3)]) (N := N_twice_area) (sc := defScope s_twice_area) (by decide +kernel)) (fun _ _ _ _ _ => (g_tup 2 (gs_cons (g_name 2 sc_twice_area.nd) (gs_cons (g_name 3 sc_twice_area.nd) gs_nil)))) (fun _ _ _ _ _ => (d_op op_sub od_sub (d_op op_mulW od_mul (d_ix (d_var 2) d_int) (d_ix (d_var 3) d_int)) (d_op op_mulW od_mul (d_ix (d_var 2) d_int) (d_ix (d_var 3) d_int))))))
theorem ok_least_first (T : Txt K mg) : FnD P w K mg base 1 T.f_least_first T.d_least_first ["corners"] v_least_first := def_ok (k := 0) T.F_least_first sc_least_first fun cdv A outer s H E hr tk hp =>
  (ss_cons (s_set 1 sc_least_first.nd (d_lindex (hu65 hr) (d_var 0) (d_minP T.n_min (hu65 hr) (d_var 0))))
  (ss_one (s_ret (d_ty call_tuple_of cd_tup T.n_tuple boot_tuple (a_cons (d_op or_add od_add (d_slc (d_var 0) (o_some (d_var 1)) o_none) (d_slc (d_var 0) o_none (o_some (d_var 1)))) a_nil)))))
theorem ok_opposite_by (T : Txt K mg) : FnD P w K mg base 2 T.f_opposite_by T.d_opposite_by ["shape"] v_opposite_by := def_ok (k := 1) T.F_opposite_by sc_opposite_by fun cdv A outer s H E hr tk hp =>
  (ss_one (s_ret (d_call (ok_least_first T) (hr.mono (by decide)) tk T.g_least_first T.F_least_first.kp T.b_least_first (a_cons (d_new (n_lc (own := [("one", 1)]) sc_opposite_by.nd (j_of (i_seq (d_var 0))) (blkOk_by (own := [("one", 1)]) (N := N_opposite_by) (sc := defScope s_opposite_by) (by decide +kernel)) (fun _ _ _ _ _ => (g_name 1 sc_opposite_by.nd)) (fun _ _ _ _ _ => ts_nil) (fun _ _ _ _ _ => (d_tup (a_cons (d_op op_sub od_sub d_int (d_ix (d_var 1) d_int)) (a_cons (d_op op_sub od_sub d_int (d_ix (d_var 1) d_int)) a_nil)))))) a_nil))))
theorem ok_opposite (T : Txt K mg) : FnD P w K mg base 6 T.f_opposite T.d_opposite ["shape"] v_opposite := def_ok (k := 5) T.F_opposite sc_opposite fun cdv A outer s H E hr tk hp =>
  (ss_cons (s_expr (d_call (ok_check_shape T) (hr.mono (by decide)) tk T.g_check_shape T.F_check_shape.kp T.b_check_shape (a_cons (d_var 0) a_nil)))
  (ss_one (s_ret (d_call (ok_opposite_by T) (hr.mono (by decide)) tk T.g_opposite_by T.F_opposite_by.kp T.b_opposite_by (a_cons (d_var 0) a_nil)))))
theorem ok_apart_sides (T : Txt K mg) : FnD P w K mg base 7 T.f_apart_sides T.d_apart_sides ["one", "other"] v_apart_sides := def_ok (k := 6) T.F_apart_sides sc_apart_sides fun cdv A outer s H E hr tk hp =>
  (ss_one (s_ret (d_call (ok_sides_by T) (hr.mono (by decide)) tk T.g_sides_by T.F_sides_by.kp T.b_sides_by (a_cons (d_call (ok_apart_corners T) (hr.mono (by decide)) tk T.g_apart_corners T.F_apart_corners.kp T.b_apart_corners (a_cons (d_var 0) (a_cons (d_var 1) a_nil))) a_nil))))
theorem ok_text_of_shape (T : Txt K mg) : FnD P w K mg base 1 T.f_text_of_shape T.d_text_of_shape ["shape"] v_text_of_shape := def_ok (k := 0) T.F_text_of_shape sc_text_of_shape fun cdv A outer s H E hr tk hp =>
  (ss_one (s_ret (d_join d_str (l_new (n_lc (own := [("one", 1)]) sc_text_of_shape.nd (j_of (i_seq (d_var 0))) (blkOk_by (own := [("one", 1)]) (N := N_text_of_shape) (sc := defScope s_text_of_shape) (by decide +kernel)) (fun _ _ _ _ _ => (g_name 1 sc_text_of_shape.nd)) (fun _ _ _ _ _ => ts_nil) (fun _ _ _ _ _ => (d_op or_add od_add (d_op or_add od_add (d_ty call_str_int cd_str T.n_str boot_str (a_cons (d_ix (d_var 1) d_int) a_nil)) d_str) (d_ty call_str_int cd_str T.n_str boot_str (a_cons (d_ix (d_var 1) d_int) a_nil)))))))))
theorem ok_shape_text (T : Txt K mg) : FnD P w K mg base 6 T.f_shape_text T.d_shape_text ["shape"] v_shape_text := def_ok (k := 5) T.F_shape_text sc_shape_text fun cdv A outer s H E hr tk hp =>
  (ss_cons (s_expr (d_call (ok_check_shape T) (hr.mono (by decide)) tk T.g_check_shape T.F_check_shape.kp T.b_check_shape (a_cons (d_var 0) a_nil)))
  (ss_one (s_ret (d_call (ok_text_of_shape T) (hr.mono (by decide)) tk T.g_text_of_shape T.F_text_of_shape.kp T.b_text_of_shape (a_cons (d_var 0) a_nil)))))
theorem ok_integer_of (T : Txt K mg) : FnD P w K mg base 1 T.f_integer_of T.d_integer_of ["word"] v_integer_of := def_ok (k := 0) T.F_integer_of sc_integer_of fun cdv A outer s H E hr tk hp =>
  (ss_cons (s_set 1 sc_integer_of.nd (d_if (dt_cmp (op_eqD hr.units) od_eq (d_slc (d_var 0) o_none (o_some d_int)) d_str (nomark _)) (d_slc (d_var 0) (o_some d_int) o_none) (d_var 0)))
  (ss_cons (s_if (dt_w (dw_or (dt_not (dt_chain op_le od_le op_le od_le d_int (d_blt cr_len cd_len T.n_len PySem.boot_len (a_cons (d_var 1) a_nil)) (d_globI T.c_MOST_FIGURES))) (dw_or1 (dt_not (dt_val (d_bltL (cr_all rfl) ld_all T.n_all (by decide +kernel) (l_new (n_lc (own := [("sign", 2)]) sc_integer_of.nd (j_of (i_seq (d_var 1))) (blkOk_by (own := [("sign", 2)]) (N := N_integer_of) (sc := defScope s_integer_of) (by decide +kernel)) (fun _ _ _ _ _ => (g_name 2 sc_integer_of.nd)) (fun _ _ _ _ _ => ts_nil) (fun _ _ _ _ _ => (d_cmp (or_inG (hu65 hr)) od_inG (d_var 2) (d_globS T.c_FIGURES) (by rfl)))))))))))
  (ss_one (s_ret d_non))
  ss_nil)
  (ss_one (s_ret (d_if (dt_w (dw_or (dt_cmp (op_eqD hr.units) od_eq (d_var 0) d_str (nomark _)) (dw_or1 (dt_cmp (op_neD hr.units) od_ne (d_ix (d_var 1) d_int) d_str (nomark _))))) (d_ty cr_intG cd_intG T.n_int boot_int (a_cons (d_var 0) a_nil)) d_non)))))
theorem ok_read_shape (T : Txt K mg) : FnD P w K mg base 5 T.f_read_shape T.d_read_shape ["text"] v_read_shape := def_ok (k := 4) T.F_read_shape sc_read_shape fun cdv A outer s H E hr tk hp =>
  (ss_cons (s_own 1 sc_read_shape.nd (n_lst a_nil))
  (ss_cons (s_for hp (i_seq (d_new (n_split (d_var 0) d_str))) (g_name 2 sc_read_shape.nd)
  (ss_cons (s_setNG (p_lc (i := 3) (own := [("part", 4)]) sc_read_shape.nd (j_lst (l_new (n_split (d_var 2) d_str))) (blkOk_by (own := [("part", 4)]) (N := N_read_shape) (sc := defScope s_read_shape) (by decide +kernel)) (fun _ _ _ _ _ => (g_name 4 sc_read_shape.nd)) (fun _ _ _ _ _ => ts_nil) (fun _ _ _ _ _ => (d_call (ok_integer_of T) (hr.mono (by decide)) takes0 T.g_integer_of T.F_integer_of.kp T.b_integer_of (a_cons (d_var 4) a_nil)))))
  (ss_cons (s_if (dt_w (dw_or (dt_cmp (op_neD hr.units) od_ne (d_blt cr_len cd_len T.n_len PySem.boot_len (a_cons (d_var 3) a_nil)) d_int (nomark _)) (dw_or1 (dt_cmp (or_inG (hu65 hr)) od_inG d_non (d_var 3) (by rfl)))))
  (ss_one (s_ret d_non))
  ss_nil)
  (ss_one (s_app 1 (d_ty call_tuple_of cd_tup T.n_tuple boot_tuple (a_cons (d_var 3) a_nil)))))))
  (ss_one (s_ret (d_if (dt_cmp op_isN od_isN (d_call (ok_shape_fault T) (hr.mono (by decide)) tk T.g_shape_fault T.F_shape_fault.kp T.b_shape_fault (a_cons (d_tyL call_tuple_of ld_tup T.n_tuple boot_tuple (l_own 1)) a_nil)) d_non (nomark _)) (d_tyL call_tuple_of ld_tup T.n_tuple boot_tuple (l_own 1)) d_non)))))
theorem ok_shape_of (T : Txt K mg) : FnD P w K mg base 6 T.f_shape_of T.d_shape_of ["text"] v_shape_of := def_ok (k := 5) T.F_shape_of sc_shape_of fun cdv A outer s H E hr tk hp =>
  (ss_cons (s_set 1 sc_shape_of.nd (d_if (dt_val (d_isi T.n_isinstance T.n_str boot_str (d_var 0))) (d_call (ok_read_shape T) (hr.mono (by decide)) tk T.g_read_shape T.F_read_shape.kp T.b_read_shape (a_cons (d_var 0) a_nil)) d_non))
  (ss_cons (s_if (dt_cmp op_isN od_isN (d_var 1) d_non (nomark _))
  (ss_one (s_raise T.x_BadText tk))
  ss_nil)
  (ss_one (s_ret (d_var 1)))))
theorem ok__law_error (T : Txt K mg) : FnD P w K mg base 8 T.f__law_error T.d__law_error ["call", "one", "two"] v__law_error := def_ok (k := 7) T.F__law_error sc__law_error fun cdv A outer s H E hr tk hp =>
  (ss_cons (s_try (wrh := []) ["BadPoint", "BadShape", "BadText"] tk T.exs (fun W' pn xe tk hp => (ss_one (s_if (dt_cmp (op_eqD hr.units) od_eq (d_var 0) d_int (nomark _))
  (ss_one (s_expr (d_call (ok_sides_of T) (hr.mono (by decide)) tk T.g_sides_of T.F_sides_of.kp T.b_sides_of (a_cons (d_var 1) a_nil))))
  (ss_one (s_if (dt_cmp (op_eqD hr.units) od_eq (d_var 0) d_int (nomark _))
  (ss_one (s_expr (d_call (ok_where T) (hr.mono (by decide)) tk T.g_where T.F_where.kp T.b_where (a_cons (d_var 1) (a_cons (d_var 2) a_nil)))))
  (ss_one (s_if (dt_cmp (op_eqD hr.units) od_eq (d_var 0) d_int (nomark _))
  (ss_one (s_expr (d_call (ok_twice_area T) (hr.mono (by decide)) tk T.g_twice_area T.F_twice_area.kp T.b_twice_area (a_cons (d_var 1) a_nil))))
  (ss_one (s_if (dt_cmp (op_eqD hr.units) od_eq (d_var 0) d_int (nomark _))
  (ss_one (s_expr (d_call (ok_opposite T) (hr.mono (by decide)) tk T.g_opposite T.F_opposite.kp T.b_opposite (a_cons (d_var 1) a_nil))))
  (ss_one (s_if (dt_cmp (op_eqD hr.units) od_eq (d_var 0) d_int (nomark _))
  (ss_one (s_expr (d_call (ok_apart_sides T) (hr.mono (by decide)) tk T.g_apart_sides T.F_apart_sides.kp T.b_apart_sides (a_cons (d_var 1) (a_cons (d_var 2) a_nil)))))
  (ss_one (s_if (dt_cmp (op_eqD hr.units) od_eq (d_var 0) d_int (nomark _))
  (ss_one (s_expr (d_call (ok_apart_corners T) (hr.mono (by decide)) tk T.g_apart_corners T.F_apart_corners.kp T.b_apart_corners (a_cons (d_var 1) (a_cons (d_var 2) a_nil)))))
  (ss_one (s_if (dt_cmp (op_eqD hr.units) od_eq (d_var 0) d_int (nomark _))
  (ss_one (s_expr (d_call (ok_shape_text T) (hr.mono (by decide)) tk T.g_shape_text T.F_shape_text.kp T.b_shape_text (a_cons (d_var 1) a_nil))))
  (ss_one (s_expr (d_call (ok_shape_of T) (hr.mono (by decide)) tk T.g_shape_of T.F_shape_of.kp T.b_shape_of (a_cons (d_var 1) a_nil))))))))))))))))))) (HsD.cons T.x_BadShape.gP (fun _ _ _ _ _ _ _ => (ss_one (s_ret d_str))) (HsD.cons T.x_BadPoint.gP (fun _ _ _ _ _ _ _ => (ss_one (s_ret d_str))) (HsD.cons T.x_BadText.gP (fun _ _ _ _ _ _ _ => (ss_one (s_ret d_str))) HsD.nil))))
  (ss_one (s_ret d_str)))
theorem ok__law_turn (T : Txt K mg) : FnD P w K mg base 1 T.f__law_turn T.d__law_turn ["one", "two", "three"] v__law_turn := def_ok (k := 0) T.F__law_turn sc__law_turn fun cdv A outer s H E hr tk hp =>
  (ss_one (s_ret (d_op op_sub od_sub (d_op op_mulW od_mul (d_op op_sub od_sub (d_ix (d_var 1) d_int) (d_ix (d_var 0) d_int)) (d_op op_sub od_sub (d_ix (d_var 2) d_int) (d_ix (d_var 0) d_int))) (d_op op_mulW od_mul (d_op op_sub od_sub (d_ix (d_var 1) d_int) (d_ix (d_var 0) d_int)) (d_op op_sub od_sub (d_ix (d_var 2) d_int) (d_ix (d_var 0) d_int))))))
theorem ok__law_fault (T : Txt K mg) : FnD P w K mg base 2 T.f__law_fault T.d__law_fault ["value"] v__law_fault := def_ok (k := 1) T.F__law_fault sc__law_fault fun cdv A outer s H E hr tk hp =>
  (ss_cons (s_if (dt_w (dw_or (dt_not (dt_val (d_isi T.n_isinstance T.n_tuple boot_tuple (d_var 0)))) (dw_or (dt_not (dt_chain (or_lt hr.units0) od_lt (or_lt hr.units0) od_lt d_int (d_blt cr_len cd_len T.n_len PySem.boot_len (a_cons (d_var 0) a_nil)) d_int)) (dw_or1 (dt_not (dt_val (d_bltL (cr_all rfl) ld_all T.n_all (by decide +kernel) (l_new (n_lc (own := [("one", 1)]) sc__law_fault.nd (j_of (i_seq (d_var 0))) (blkOk_by (own := [("one", 1)]) (N := N__law_fault) (sc := defScope s__law_fault) (by decide +kernel)) (fun _ _ _ _ _ => (g_name 1 sc__law_fault.nd)) (fun _ _ _ _ _ => ts_nil) (fun _ _ _ _ _ => (d_and (d_isi T.n_isinstance T.n_tuple boot_tuple (d_var 1)) (d_one (d_cmp (op_eqD hr.units) od_eq (d_blt cr_len cd_len T.n_len PySem.boot_len (a_cons (d_var 1) a_nil)) d_int (nomark _))))))))))))))
  (ss_one (s_ret (d_tup (a_cons d_str a_nil))))
  ss_nil)
  (ss_cons (s_if (dt_not (dt_val (d_bltL (cr_all rfl) ld_all T.n_all (by decide +kernel) (l_new (n_lc (own := [("one", 1)]) sc__law_fault.nd (j_of (i_seq (d_var 0))) (blkOk_by (own := [("one", 1)]) (N := N__law_fault) (sc := defScope s__law_fault) (by decide +kernel)) (fun _ _ _ _ _ => (g_name 1 sc__law_fault.nd)) (fun _ _ _ _ _ => ts_nil) (fun _ _ _ _ _ => (d_bltL (cr_all rfl) ld_all T.n_all (by decide +kernel) (l_new (n_lc (own := [("part", 5)]) sc__law_fault.nd (j_of (i_seq (d_var 1))) (blkOk_nest (own := [("part", 5)]) (N := N__law_fault) (sc := defScope s__law_fault) (by decide +kernel)) (fun _ _ _ _ _ => (g_name 5 sc__law_fault.nd)) (fun _ _ _ _ _ => ts_nil) (fun _ _ _ _ _ => (d_and (d_isi T.n_isinstance T.n_int boot_int (d_var 5)) (d_and (d_not (d_isi T.n_isinstance T.n_bool boot_bool (d_var 5))) (d_one (d_chain (or_lt hr.units0) od_lt (or_lt hr.units0) od_lt (d_un un_neg ud_neg d_int) (d_var 5) d_int))))))))))))))
  (ss_one (s_ret (d_tup (a_cons d_str a_nil))))
  ss_nil)
  (ss_cons (s_if (dt_cmp (op_neD hr.units) od_ne (d_ix (d_var 0) d_int) (d_ixL (l_new (n_sortT T.n_sorted (d_var 0))) d_int) (nomark _))
  (ss_one (s_ret (d_tup (a_cons d_str a_nil))))
  ss_nil)
  (ss_cons (s_for hp (i_rng1 T.n_range (d_blt cr_len cd_len T.n_len PySem.boot_len (a_cons (d_var 0) a_nil))) (g_name 2 sc__law_fault.nd)
  (ss_cons (s_unp (d_tup (a_cons (d_ix (d_var 0) (d_op op_sub od_sub (d_var 2) d_int)) (a_cons (d_ix (d_var 0) (d_var 2)) (a_cons (d_ix (d_var 0) (d_op op_modN od_mod (d_op or_add od_add (d_var 2) d_int) (d_blt cr_len cd_len T.n_len PySem.boot_len (a_cons (d_var 0) a_nil)))) a_nil)))) (g_tup 3 (gs_cons (g_name 1 sc__law_fault.nd) (gs_cons (g_name 3 sc__law_fault.nd) (gs_cons (g_name 4 sc__law_fault.nd) gs_nil)))))
  (ss_one (s_if (dt_w (dw_or (dt_cmp op_le od_le (d_call (ok__law_turn T) (hr.mono (by decide)) tk T.g__law_turn T.F__law_turn.kp T.b__law_turn (a_cons (d_var 1) (a_cons (d_var 3) (a_cons (d_var 4) a_nil)))) d_int (nomark _)) (dw_or1 (dt_not (dt_val (d_bltL (cr_all rfl) ld_all T.n_all (by decide +kernel) (l_new (n_lc (own := [("other", 6)]) sc__law_fault.nd (j_of (i_seq (d_var 0))) (blkOk_by (own := [("other", 6)]) (N := N__law_fault) (sc := defScope s__law_fault) (by decide +kernel)) (fun _ _ _ _ _ => (g_name 6 sc__law_fault.nd)) (fun _ _ _ _ _ => (ts_one (dt_w (dw_and (dt_cmp (op_neD hr.units) od_ne (d_var 6) (d_var 1) (nomark _)) (dw_and1 (dt_cmp (op_neD hr.units) od_ne (d_var 6) (d_var 3) (nomark _))))))) (fun _ _ _ _ _ => (d_cmp op_gt od_gt (d_call (ok__law_turn T) (hr.mono (by decide)) takes0 T.g__law_turn T.F__law_turn.kp T.b__law_turn (a_cons (d_var 1) (a_cons (d_var 3) (a_cons (d_var 6) a_nil)))) d_int (nomark _)))))))))))
  (ss_one (s_ret (d_tup (a_cons d_str (a_cons (d_var 2) a_nil)))))
  ss_nil))))
  (ss_one (s_ret d_non))))))
theorem ok__law_sides (T : Txt K mg) : FnD P w K mg base 1 T.f__law_sides T.d__law_sides ["corners"] v__law_sides := def_ok (k := 0) T.F__law_sides sc__law_sides fun cdv A outer s H E hr tk hp =>
  (ss_cons (s_own 1 sc__law_sides.nd (n_lst a_nil))
  (ss_cons (s_for hp (i_rng1 T.n_range (d_blt cr_len cd_len T.n_len PySem.boot_len (a_cons (d_var 0) a_nil))) (g_name 2 sc__law_sides.nd)
  (ss_cons (s_par 3 4 sc__law_sides.nd (a_cons (d_ix (d_var 0) (d_var 2)) (a_cons (d_ix (d_var 0) (d_op op_modN od_mod (d_op or_add od_add (d_var 2) d_int) (d_blt cr_len cd_len T.n_len PySem.boot_len (a_cons (d_var 0) a_nil)))) a_nil)))
  (ss_cons (s_set 5 sc__law_sides.nd (d_tup (a_cons (d_op op_sub od_sub (d_ix (d_var 4) d_int) (d_ix (d_var 3) d_int)) (a_cons (d_op op_sub od_sub (d_ix (d_var 3) d_int) (d_ix (d_var 4) d_int)) a_nil))))
  (ss_cons (s_set 6 sc__law_sides.nd (d_bltL (cr_max rfl) ld_max T.n_max boot_max (l_new (n_lc (own := [("d", 8)]) sc__law_sides.nd (j_of (i_rng2 T.n_range d_int d_int)) (blkOk_by (own := [("d", 8)]) (N := N__law_sides) (sc := defScope s__law_sides) (by decide +kernel)) (fun _ _ _ _ _ => (g_name 8 sc__law_sides.nd)) (fun _ _ _ _ _ => (ts_one (dt_w (dw_and (dt_cmp (op_eqD hr.units) od_eq (d_op op_modN od_mod (d_ix (d_var 5) d_int) (d_var 8)) d_int (nomark _)) (dw_and1 (dt_cmp (op_eqD hr.units) od_eq (d_op op_modN od_mod (d_ix (d_var 5) d_int) (d_var 8)) d_int (nomark _))))))) (fun _ _ _ _ _ => (d_var 8))))))
  (ss_cons (s_set 7 sc__law_sides.nd (d_tup (a_cons (d_op op_fdivZ od_fdiv (d_ix (d_var 5) d_int) (d_var 6)) (a_cons (d_op op_fdivZ od_fdiv (d_ix (d_var 5) d_int) (d_var 6)) a_nil))))
  (ss_one (s_app 1 (d_tup (a_cons (d_var 7) (a_cons (d_op or_add od_add (d_op op_mulW od_mul (d_ix (d_var 7) d_int) (d_ix (d_var 3) d_int)) (d_op op_mulW od_mul (d_ix (d_var 7) d_int) (d_ix (d_var 3) d_int))) a_nil))))))))))
  (ss_one (s_ret (d_tyL call_tuple_of ld_tup T.n_tuple boot_tuple (l_own 1))))))
theorem ok__law_round (T : Txt K mg) : FnD P w K mg base 2 T.f__law_round T.d__law_round ["points"] v__law_round := def_ok (k := 1) T.F__law_round sc__law_round fun cdv A outer s H E hr tk hp =>
  (ss_cons (s_own 1 sc__law_round.nd (n_lst (a_cons (d_ixL (l_new (n_bltL cr_sortD ln_sort T.n_sorted boot_sorted (l_of (d_var 0)))) d_int) a_nil)))
  (ss_one (s_while hp (dt_val d_bl)
  (ss_cons (s_set 2 sc__law_round.nd (d_ixL (l_own 1) (d_un un_neg ud_neg d_int)))
  (ss_cons (s_set 3 sc__law_round.nd d_non)
  (ss_cons (s_for hp (i_seq (d_var 0)) (g_name 4 sc__law_round.nd)
  (ss_one (s_if (dt_cmp (op_neD hr.units) od_ne (d_var 4) (d_var 2) (nomark _))
  (ss_cons (s_set 5 sc__law_round.nd (d_if (dt_cmp op_isN od_isN (d_var 3) d_non (nomark _)) d_int (d_call (ok__law_turn T) (hr.mono (by decide)) tk T.g__law_turn T.F__law_turn.kp T.b__law_turn (a_cons (d_var 2) (a_cons (d_var 4) (a_cons (d_var 3) a_nil))))))
  (ss_cons (s_set 6 sc__law_round.nd (d_and (d_cmp op_notN od_notN (d_var 3) d_non (nomark _)) (d_and (d_cmp (op_eqD hr.units) od_eq (d_var 5) d_int (nomark _)) (d_one (d_cmp op_gt od_gt (d_op or_add od_add (d_blt call_abs cd_abs T.n_abs boot_abs (a_cons (d_op op_sub od_sub (d_ix (d_var 4) d_int) (d_ix (d_var 2) d_int)) a_nil)) (d_blt call_abs cd_abs T.n_abs boot_abs (a_cons (d_op op_sub od_sub (d_ix (d_var 4) d_int) (d_ix (d_var 2) d_int)) a_nil))) (d_op or_add od_add (d_blt call_abs cd_abs T.n_abs boot_abs (a_cons (d_op op_sub od_sub (d_ix (d_var 3) d_int) (d_ix (d_var 2) d_int)) a_nil)) (d_blt call_abs cd_abs T.n_abs boot_abs (a_cons (d_op op_sub od_sub (d_ix (d_var 3) d_int) (d_ix (d_var 2) d_int)) a_nil))) (nomark _))))))
  (ss_one (s_set 3 sc__law_round.nd (d_if (dt_w (dw_or (dt_cmp op_isN od_isN (d_var 3) d_non (nomark _)) (dw_or (dt_cmp op_gt od_gt (d_var 5) d_int (nomark _)) (dw_or1 (dt_val (d_var 6)))))) (d_var 4) (d_var 3))))))
  ss_nil)))
  (ss_cons (s_if (dt_cmp (op_eqD hr.units) od_eq (d_var 3) (d_ixL (l_own 1) d_int) (nomark _))
  (ss_one (s_ret (d_tyL call_tuple_of ld_tup T.n_tuple boot_tuple (l_own 1))))
  ss_nil)
  (ss_one (s_app 1 (d_var 3))))))))))
theorem ok__law_frac (T : Txt K mg) : FnD P w K mg base 1 T.f__law_frac T.d__law_frac ["above", "below"] v__law_frac := def_ok (k := 0) T.F__law_frac sc__law_frac fun cdv A outer s H E hr tk hp =>
  (ss_cons (s_par 2 3 sc__law_frac.nd (a_cons (d_blt call_abs cd_abs T.n_abs boot_abs (a_cons (d_var 0) a_nil)) (a_cons (d_var 1) a_nil)))
  (ss_cons (s_while hp (dt_cmp op_gt od_gt (d_var 3) d_int (nomark _))
  (ss_one (s_par 2 3 sc__law_frac.nd (a_cons (d_var 3) (a_cons (d_op op_modN od_mod (d_var 2) (d_var 3)) a_nil)))))
  (ss_one (s_ret (d_tup (a_cons (d_op op_fdivZ od_fdiv (d_var 0) (d_var 2)) (a_cons (d_op op_fdivZ od_fdiv (d_var 1) (d_var 2)) a_nil)))))))
theorem ok__law_where (T : Txt K mg) : FnD P w K mg base 1 T.f__law_where T.d__law_where ["corners", "point"] v__law_where := def_ok (k := 0) T.F__law_where sc__law_where fun cdv A outer s H E hr tk hp =>
  (ss_cons (s_set 2 sc__law_where.nd d_str)
  (ss_cons (s_for hp (i_rng1 T.n_range (d_blt cr_len cd_len T.n_len PySem.boot_len (a_cons (d_var 0) a_nil))) (g_name 3 sc__law_where.nd)
  (ss_cons (s_par 4 5 sc__law_where.nd (a_cons (d_ix (d_var 0) (d_var 3)) (a_cons (d_ix (d_var 0) (d_op op_modN od_mod (d_op or_add od_add (d_var 3) d_int) (d_blt cr_len cd_len T.n_len PySem.boot_len (a_cons (d_var 0) a_nil)))) a_nil)))
  (ss_cons (s_set 6 sc__law_where.nd (d_op op_mulW od_mul (d_ix (d_ix (d_var 1) d_int) d_int) (d_ix (d_ix (d_var 1) d_int) d_int)))
  (ss_cons (s_set 7 sc__law_where.nd (d_op op_sub od_sub (d_op op_mulW od_mul (d_op op_sub od_sub (d_ix (d_var 5) d_int) (d_ix (d_var 4) d_int)) (d_op op_sub od_sub (d_op op_mulW od_mul (d_ix (d_ix (d_var 1) d_int) d_int) (d_ix (d_ix (d_var 1) d_int) d_int)) (d_op op_mulW od_mul (d_ix (d_var 4) d_int) (d_var 6)))) (d_op op_mulW od_mul (d_op op_sub od_sub (d_ix (d_var 5) d_int) (d_ix (d_var 4) d_int)) (d_op op_sub od_sub (d_op op_mulW od_mul (d_ix (d_ix (d_var 1) d_int) d_int) (d_ix (d_ix (d_var 1) d_int) d_int)) (d_op op_mulW od_mul (d_ix (d_var 4) d_int) (d_var 6))))))
  (ss_one (s_set 2 sc__law_where.nd (d_if (dt_w (dw_or (dt_cmp (or_lt hr.units0) od_lt (d_var 7) d_int (nomark _)) (dw_or1 (dt_cmp (op_eqD hr.units) od_eq (d_var 2) d_str (nomark _))))) d_str (d_if (dt_cmp (op_eqD hr.units) od_eq (d_var 7) d_int (nomark _)) d_str (d_var 2)))))))))
  (ss_one (s_ret (d_var 2)))))
theorem ok_law (T : Txt K mg) : FnD P w K mg base 9 T.f_law T.d_law ["script"] v_law := def_ok (k := 8) T.F_law sc_law fun cdv A outer s H E hr tk hp =>
  (ss_cons (s_set 1 sc_law.nd (d_call (ok__law_draws T) (hr.mono (by decide)) tk T.g__law_draws T.F__law_draws.kp T.b__law_draws (a_cons (d_var 0) (a_cons d_int a_nil))))
  (ss_cons (s_for hp (i_rng1 T.n_range d_int) (g_name 2 sc_law.nd)
  (ss_cons (s_unp (d_tup (a_cons (d_call (ok__law_shape T) (hr.mono (by decide)) tk T.g__law_shape T.F__law_shape.kp T.b__law_shape (a_cons (d_slc (d_var 1) (o_some (d_op op_mulW od_mul d_int (d_var 2))) o_none) a_nil)) (a_cons (d_call (ok__law_shape T) (hr.mono (by decide)) tk T.g__law_shape T.F__law_shape.kp T.b__law_shape (a_cons (d_slc (d_var 1) (o_some (d_op or_add od_add d_int (d_op op_mulW od_mul d_int (d_var 2)))) o_none) a_nil)) a_nil))) (g_tup 2 (gs_cons (g_name 3 sc_law.nd) (gs_cons (g_name 4 sc_law.nd) gs_nil))))
  (ss_cons (s_if (dt_w (dw_or (dt_cmp op_notN od_notN (d_call (ok_shape_fault T) (hr.mono (by decide)) tk T.g_shape_fault T.F_shape_fault.kp T.b_shape_fault (a_cons (d_var 3) a_nil)) d_non (nomark _)) (dw_or (dt_cmp op_notN od_notN (d_call (ok__law_fault T) (hr.mono (by decide)) tk T.g__law_fault T.F__law_fault.kp T.b__law_fault (a_cons (d_var 3) a_nil)) d_non (nomark _)) (dw_or1 (dt_cmp (op_neD hr.units) od_ne (d_call (ok_sides_of T) (hr.mono (by decide)) tk T.g_sides_of T.F_sides_of.kp T.b_sides_of (a_cons (d_var 3) a_nil)) (d_call (ok__law_sides T) (hr.mono (by decide)) tk T.g__law_sides T.F__law_sides.kp T.b__law_sides (a_cons (d_var 3) a_nil)) (nomark _))))))
  (ss_one (s_ret d_bl))
  ss_nil)
  (ss_cons (s_set 6 sc_law.nd (d_bltL (cr_sum rfl) ld_sum T.n_sum (by decide +kernel) (l_new (n_lc (own := [("k", 5)]) sc_law.nd (j_of (i_rng1 T.n_range (d_blt cr_len cd_len T.n_len PySem.boot_len (a_cons (d_var 3) a_nil)))) (blkOk_by (own := [("k", 5)]) (N := N_law) (sc := defScope s_law) (by decide +kernel)) (fun _ _ _ _ _ => (g_name 5 sc_law.nd)) (fun _ _ _ _ _ => ts_nil) (fun _ _ _ _ _ => (d_op op_sub od_sub (d_op op_mulW od_mul (d_ix (d_ix (d_var 3) (d_op op_sub od_sub (d_var 5) d_int)) d_int) (d_ix (d_ix (d_var 3) (d_var 5)) d_int)) (d_op op_mulW od_mul (d_ix (d_ix (d_var 3) (d_op op_sub od_sub (d_var 5) d_int)) d_int) (d_ix (d_ix (d_var 3) (d_var 5)) d_int))))))))
  (ss_cons (s_if (dt_w (dw_or (dt_cmp (op_neD hr.units) od_ne (d_call (ok_twice_area T) (hr.mono (by decide)) tk T.g_twice_area T.F_twice_area.kp T.b_twice_area (a_cons (d_var 3) a_nil)) (d_var 6) (nomark _)) (dw_or (dt_cmp (op_neD hr.units) od_ne (d_new (n_sortT T.n_sorted (d_call (ok_opposite T) (hr.mono (by decide)) tk T.g_opposite T.F_opposite.kp T.b_opposite (a_cons (d_var 3) a_nil)))) (d_new (n_bltL cr_sortD ln_sort T.n_sorted boot_sorted (l_new (n_lc (own := [("corner", 7)]) sc_law.nd (j_of (i_seq (d_var 3))) (blkOk_by (own := [("corner", 7)]) (N := N_law) (sc := defScope s_law) (by decide +kernel)) (fun _ _ _ _ _ => (g_name 7 sc_law.nd)) (fun _ _ _ _ _ => ts_nil) (fun _ _ _ _ _ => (d_tup (a_cons (d_op op_sub od_sub d_int (d_ix (d_var 7) d_int)) (a_cons (d_op op_sub od_sub d_int (d_ix (d_var 7) d_int)) a_nil)))))))) (nomark _)) (dw_or (dt_cmp op_notN od_notN (d_call (ok_shape_fault T) (hr.mono (by decide)) tk T.g_shape_fault T.F_shape_fault.kp T.b_shape_fault (a_cons (d_call (ok_opposite T) (hr.mono (by decide)) tk T.g_opposite T.F_opposite.kp T.b_opposite (a_cons (d_var 3) a_nil)) a_nil)) d_non (nomark _)) (dw_or1 (dt_cmp (op_neD hr.units) od_ne (d_call (ok_opposite T) (hr.mono (by decide)) tk T.g_opposite T.F_opposite.kp T.b_opposite (a_cons (d_call (ok_opposite T) (hr.mono (by decide)) tk T.g_opposite T.F_opposite.kp T.b_opposite (a_cons (d_var 3) a_nil)) a_nil)) (d_var 3) (nomark _)))))))
  (ss_one (s_ret d_bl))
  ss_nil)
  (ss_cons (s_set 8 sc_law.nd (d_new (n_lst a_nil)))
  (ss_cons (s_for hp (i_seq (d_var 3)) (g_name 7 sc_law.nd)
  (ss_one (s_set 8 sc_law.nd (d_new (n_cat (l_of (d_var 8)) (l_new (n_lc (own := [("other", 21)]) sc_law.nd (j_of (i_seq (d_var 4))) (blkOk_by (own := [("other", 21)]) (N := N_law) (sc := defScope s_law) (by decide +kernel)) (fun _ _ _ _ _ => (g_name 21 sc_law.nd)) (fun _ _ _ _ _ => ts_nil) (fun _ _ _ _ _ => (d_tup (a_cons (d_op op_sub od_sub (d_ix (d_var 7) d_int) (d_ix (d_var 21) d_int)) (a_cons (d_op op_sub od_sub (d_ix (d_var 7) d_int) (d_ix (d_var 21) d_int)) a_nil)))))))))))
  (ss_cons (s_set 9 sc_law.nd (d_call (ok_apart_corners T) (hr.mono (by decide)) tk T.g_apart_corners T.F_apart_corners.kp T.b_apart_corners (a_cons (d_var 3) (a_cons (d_var 4) a_nil))))
  (ss_cons (s_if (dt_w (dw_or (dt_cmp (op_neD hr.units) od_ne (d_var 9) (d_call (ok__law_round T) (hr.mono (by decide)) tk T.g__law_round T.F__law_round.kp T.b__law_round (a_cons (d_var 8) a_nil)) (nomark _)) (dw_or1 (dt_cmp (op_neD hr.units) od_ne (d_call (ok_apart_sides T) (hr.mono (by decide)) tk T.g_apart_sides T.F_apart_sides.kp T.b_apart_sides (a_cons (d_var 3) (a_cons (d_var 4) a_nil))) (d_call (ok__law_sides T) (hr.mono (by decide)) tk T.g__law_sides T.F__law_sides.kp T.b__law_sides (a_cons (d_var 9) a_nil)) (nomark _)))))
  (ss_one (s_ret d_bl))
  ss_nil)
  (ss_cons (s_for hp (i_rng1 T.n_range d_int) (g_name 5 sc_law.nd)
  (ss_cons (s_set 10 sc_law.nd (d_tup (a_cons (d_call (ok__law_frac T) (hr.mono (by decide)) tk T.g__law_frac T.F__law_frac.kp T.b__law_frac (a_cons (d_op op_sub od_sub (d_op op_modN od_mod (d_ty cr_intG cd_intG T.n_int boot_int (a_cons (d_ix (d_var 1) (d_op or_add od_add d_int (d_var 5))) a_nil)) d_int) d_int) (a_cons d_int a_nil))) (a_cons (d_call (ok__law_frac T) (hr.mono (by decide)) tk T.g__law_frac T.F__law_frac.kp T.b__law_frac (a_cons (d_op op_sub od_sub (d_op op_modN od_mod (d_ty cr_intG cd_intG T.n_int boot_int (a_cons (d_ix (d_var 1) (d_op or_add od_add d_int (d_var 5))) a_nil)) d_int) d_int) (a_cons d_int a_nil))) a_nil))))
  (ss_one (s_if (dt_cmp (op_neD hr.units) od_ne (d_call (ok_where T) (hr.mono (by decide)) tk T.g_where T.F_where.kp T.b_where (a_cons (d_var 3) (a_cons (d_var 10) a_nil))) (d_call (ok__law_where T) (hr.mono (by decide)) tk T.g__law_where T.F__law_where.kp T.b__law_where (a_cons (d_var 3) (a_cons (d_var 10) a_nil))) (nomark _))
  (ss_one (s_ret d_bl))
  ss_nil))))
  (ss_cons (s_set 11 sc_law.nd (d_join d_str (l_new (n_lc (own := [("corner", 7)]) sc_law.nd (j_of (i_seq (d_var 3))) (blkOk_by (own := [("corner", 7)]) (N := N_law) (sc := defScope s_law) (by decide +kernel)) (fun _ _ _ _ _ => (g_name 7 sc_law.nd)) (fun _ _ _ _ _ => ts_nil) (fun _ _ _ _ _ => (d_op or_add od_add (d_op or_add od_add (d_ty call_str_int cd_str T.n_str boot_str (a_cons (d_ix (d_var 7) d_int) a_nil)) d_str) (d_ty call_str_int cd_str T.n_str boot_str (a_cons (d_ix (d_var 7) d_int) a_nil))))))))
  (ss_cons (s_if (dt_w (dw_or (dt_cmp (op_neD hr.units) od_ne (d_call (ok_shape_text T) (hr.mono (by decide)) tk T.g_shape_text T.F_shape_text.kp T.b_shape_text (a_cons (d_var 3) a_nil)) (d_var 11) (nomark _)) (dw_or1 (dt_cmp (op_neD hr.units) od_ne (d_call (ok_shape_of T) (hr.mono (by decide)) tk T.g_shape_of T.F_shape_of.kp T.b_shape_of (a_cons (d_var 11) a_nil)) (d_var 3) (nomark _)))))
  (ss_one (s_ret d_bl))
  ss_nil)
  (ss_cons (s_par 12 13 sc_law.nd (a_cons (d_op op_modN od_mod (d_ty cr_intG cd_intG T.n_int boot_int (a_cons (d_ix (d_var 1) (d_op or_add od_add d_int (d_var 2))) a_nil)) (d_blt cr_len cd_len T.n_len PySem.boot_len (a_cons (d_var 3) a_nil))) (a_cons (d_ty cr_intG cd_intG T.n_int boot_int (a_cons (d_ix (d_var 1) (d_op or_add od_add d_int (d_var 2))) a_nil)) a_nil)))
  (ss_cons (s_set 14 sc_law.nd (d_ixL (l_new (n_lst (a_cons (d_tup (a_cons d_int (a_cons d_int a_nil))) (a_cons (d_tup (a_cons d_bl (a_cons d_int a_nil))) (a_cons d_non (a_cons (d_tup (a_cons d_int a_nil)) (a_cons (d_tup (a_cons (d_un un_neg ud_neg d_int) (a_cons (d_un un_neg ud_neg d_int) a_nil))) (a_cons (d_tup (a_cons d_int (a_cons d_int a_nil))) (a_cons (d_ix (d_var 3) (d_op op_sub od_sub (d_var 12) d_int)) (a_cons (d_tup (a_cons d_int (a_cons d_int a_nil))) a_nil)))))))))) (d_op op_modN od_mod (d_var 13) d_int)))
  (ss_one (s_for hp (i_seq (d_tup (a_cons (d_op or_add od_add (d_op or_add od_add (d_slc (d_var 3) o_none (o_some (d_var 12))) (d_tup (a_cons (d_var 14) a_nil))) (d_slc (d_var 3) (o_some (d_op or_add od_add (d_var 12) d_int)) o_none)) (a_cons (d_op or_add od_add (d_slc (d_var 3) o_none (o_some (d_var 12))) (d_slc (d_var 3) (o_some (d_op or_add od_add (d_var 12) d_int)) o_none)) (a_cons (d_revT (d_var 3)) (a_cons (d_op or_add od_add (d_slc (d_var 3) (o_some d_int) o_none) (d_slc (d_var 3) o_none (o_some d_int))) (a_cons (d_op or_add od_add (d_var 3) (d_slc (d_var 3) o_none (o_some d_int))) (a_cons (d_new (n_lstOf T.n_list boot_list (a_cons (d_var 3) a_nil))) (a_cons (d_op or_add od_add (d_op or_add od_add (d_slc (d_var 3) o_none (o_some (d_var 12))) (d_tup (a_cons (d_var 14) a_nil))) (d_slc (d_var 3) (o_some (d_var 12)) o_none)) a_nil))))))))) (g_name 15 sc_law.nd)
  (ss_one (s_if (dt_w (dw_or (dt_cmp (op_neD hr.units) od_ne (d_call (ok_shape_fault T) (hr.mono (by decide)) tk T.g_shape_fault T.F_shape_fault.kp T.b_shape_fault (a_cons (d_var 15) a_nil)) (d_call (ok__law_fault T) (hr.mono (by decide)) tk T.g__law_fault T.F__law_fault.kp T.b__law_fault (a_cons (d_var 15) a_nil)) (nomark _)) (dw_or1 (dt_cmp (op_neD hr.units) od_ne (d_cmp (op_eqD hr.units) od_eq (d_call (ok__law_error T) (hr.mono (by decide)) tk T.g__law_error T.F__law_error.kp T.b__law_error (a_cons d_int (a_cons (d_var 15) (a_cons d_non a_nil)))) d_str (nomark _)) (d_cmp op_notN od_notN (d_call (ok__law_fault T) (hr.mono (by decide)) tk T.g__law_fault T.F__law_fault.kp T.b__law_fault (a_cons (d_var 15) a_nil)) d_non (nomark _)) (nomark _)))))
  (ss_one (s_ret d_bl))
  ss_nil))))))))))))))))))
  (ss_cons (s_set 16 sc_law.nd (d_tup (a_cons (d_tup (a_cons d_int (a_cons d_int a_nil))) (a_cons (d_tup (a_cons d_int (a_cons d_int a_nil))) (a_cons (d_tup (a_cons (d_un un_neg ud_neg d_int) (a_cons d_int a_nil))) (a_cons (d_tup (a_cons d_int (a_cons d_int a_nil))) (a_cons (d_tup (a_cons d_int (a_cons d_int a_nil))) a_nil)))))))
  (ss_cons (s_unp (d_tup (a_cons (d_tup (a_cons (d_tup (a_cons d_int (a_cons d_int a_nil))) (a_cons (d_tup (a_cons d_int (a_cons d_int a_nil))) (a_cons (d_tup (a_cons d_int (a_cons d_int a_nil))) a_nil)))) (a_cons (d_tup (a_cons (d_tup (a_cons d_int (a_cons d_int a_nil))) (a_cons (d_tup (a_cons d_int (a_cons d_int a_nil))) a_nil))) a_nil))) (g_tup 2 (gs_cons (g_name 17 sc_law.nd) (gs_cons (g_name 10 sc_law.nd) gs_nil))))
  (ss_cons (s_for hp (i_seq (d_tup (a_cons d_non (a_cons (d_tup a_nil) (a_cons (d_slc (d_var 17) o_none (o_some d_int)) (a_cons (d_tup (a_cons (d_tup (a_cons d_int (a_cons d_int a_nil))) (a_cons (d_tup (a_cons d_int (a_cons d_int a_nil))) (a_cons (d_tup (a_cons d_int (a_cons d_int a_nil))) a_nil)))) (a_cons (d_var 16) (a_cons (d_op op_repT od_repT (d_var 17) d_int) (a_cons d_int a_nil))))))))) (g_name 18 sc_law.nd)
  (ss_cons (s_if (dt_w (dw_or (dt_cmp (op_neD hr.units) od_ne (d_call (ok_shape_fault T) (hr.mono (by decide)) tk T.g_shape_fault T.F_shape_fault.kp T.b_shape_fault (a_cons (d_var 18) a_nil)) (d_call (ok__law_fault T) (hr.mono (by decide)) tk T.g__law_fault T.F__law_fault.kp T.b__law_fault (a_cons (d_var 18) a_nil)) (nomark _)) (dw_or1 (dt_cmp (op_neD hr.units) od_ne (d_new (n_lc (own := [("call", 20)]) sc_law.nd (j_of (i_seq (d_tup (a_cons d_int (a_cons d_int a_nil))))) (blkOk_by (own := [("call", 20)]) (N := N_law) (sc := defScope s_law) (by decide +kernel)) (fun _ _ _ _ _ => (g_name 20 sc_law.nd)) (fun _ _ _ _ _ => ts_nil) (fun _ _ _ _ _ => (d_call (ok__law_error T) (hr.mono (by decide)) takes0 T.g__law_error T.F__law_error.kp T.b__law_error (a_cons (d_var 20) (a_cons (d_var 17) (a_cons (d_var 18) a_nil))))))) (d_new (n_rep (l_new (n_lst (a_cons d_str a_nil))) d_int)) (nomark _)))))
  (ss_one (s_ret d_bl))
  ss_nil)
  (ss_one (s_if (dt_cmp (op_neD hr.units) od_ne (d_new (n_lc (own := [("call", 20)]) sc_law.nd (j_of (i_rng1 T.n_range d_int)) (blkOk_by (own := [("call", 20)]) (N := N_law) (sc := defScope s_law) (by decide +kernel)) (fun _ _ _ _ _ => (g_name 20 sc_law.nd)) (fun _ _ _ _ _ => ts_nil) (fun _ _ _ _ _ => (d_call (ok__law_error T) (hr.mono (by decide)) takes0 T.g__law_error T.F__law_error.kp T.b__law_error (a_cons (d_var 20) (a_cons (d_var 18) (a_cons (d_if (dt_cmp op_gt od_gt (d_var 20) d_int (nomark _)) (d_var 17) (d_var 10)) a_nil))))))) (d_new (n_rep (l_new (n_lst (a_cons d_str a_nil))) d_int)) (nomark _))
  (ss_one (s_ret d_bl))
  ss_nil))))
  (ss_cons (s_if (dt_cmp (op_neD hr.units) od_ne (d_new (n_lc (own := [("wrong", 18)]) sc_law.nd (j_of (i_seq (d_tup (a_cons d_non (a_cons (d_tup (a_cons d_int (a_cons d_int a_nil))) (a_cons (d_tup (a_cons (d_tup (a_cons d_int (a_cons d_int a_nil))) a_nil)) (a_cons (d_tup (a_cons (d_tup (a_cons d_int (a_cons d_int a_nil))) (a_cons (d_tup (a_cons d_int (a_cons d_int a_nil))) a_nil))) a_nil))))))) (blkOk_by (own := [("wrong", 18)]) (N := N_law) (sc := defScope s_law) (by decide +kernel)) (fun _ _ _ _ _ => (g_name 18 sc_law.nd)) (fun _ _ _ _ _ => ts_nil) (fun _ _ _ _ _ => (d_call (ok__law_error T) (hr.mono (by decide)) takes0 T.g__law_error T.F__law_error.kp T.b__law_error (a_cons d_int (a_cons (d_var 17) (a_cons (d_var 18) a_nil))))))) (d_new (n_rep (l_new (n_lst (a_cons d_str a_nil))) d_int)) (nomark _))
  (ss_one (s_ret d_bl))
  ss_nil)
  (ss_cons (s_set 19 sc_law.nd (d_new (n_lst (a_cons d_str (a_cons d_str (a_cons d_str (a_cons d_str (a_cons d_str (a_cons d_str (a_cons d_str (a_cons d_str (a_cons d_str a_nil))))))))))))
  (ss_one (s_ret (d_cmp (op_eqD hr.units) od_eq (d_new (n_lc (own := [("wrong", 18)]) sc_law.nd (j_lst (l_new (n_cat (l_new (n_lst (a_cons d_non (a_cons d_int a_nil)))) (l_of (d_var 19))))) (blkOk_by (own := [("wrong", 18)]) (N := N_law) (sc := defScope s_law) (by decide +kernel)) (fun _ _ _ _ _ => (g_name 18 sc_law.nd)) (fun _ _ _ _ _ => ts_nil) (fun _ _ _ _ _ => (d_call (ok__law_error T) (hr.mono (by decide)) takes0 T.g__law_error T.F__law_error.kp T.b__law_error (a_cons d_int (a_cons (d_var 18) (a_cons d_non a_nil))))))) (d_new (n_rep (l_new (n_lst (a_cons d_str a_nil))) d_int)) (nomark _)))))))))))
end
end Wk

namespace Wk
open PySem PySem.Spec PyProof.Rows L2 TD Dn
def spLaw (K : PySem.W.Frag) : Sp := fun vs H Q _ => ∃ (a : Addr) (ns : List Int), vs = [.ref a] ∧ ns.length ≤ 63 ∧ SqL K H a (ns.map V.int) ∧ ∀ H', Q (.bl true) H'
def mkTxt {K : PySem.W.Frag} {h : Heap} {mg : Str → Option Value} (X : K.In h) (G : h.Ns mainGlobals mg)
  {t_FIGURES : Tok}
  {t_FORM : Addr} {to_FORM : Option Addr} {tn_FORM : Nat} {ts_FORM : Array (Option Value)} {tk0_FORM : Tok}
  {t_IN : Tok}
  {t_MOST_CORNERS : Tok}
  {t_MOST_FIGURES : Tok}
  {t_MOST_SIDE : Tok}
  {t_ON : Tok}
  {t_OUT : Tok}
  {C_BadPoint : Addr}
  {C_BadShape : Addr}
  {C_BadText : Addr}
  {f__law_draws : Addr} {od__law_draws an__law_draws : Option Addr} {sl__law_draws : Array (Option Value)} {oc__law_draws kV__law_draws dc__law_draws pm__law_draws cd__law_draws ct__law_draws : Value}
  {f_turn : Addr} {od_turn an_turn : Option Addr} {sl_turn : Array (Option Value)} {oc_turn kV_turn dc_turn pm_turn cd_turn ct_turn : Value}
  {f__is_round : Addr} {od__is_round an__is_round : Option Addr} {sl__is_round : Array (Option Value)} {oc__is_round kV__is_round dc__is_round pm__is_round cd__is_round ct__is_round : Value}
  {f_is_integer : Addr} {od_is_integer an_is_integer : Option Addr} {sl_is_integer : Array (Option Value)} {oc_is_integer kV_is_integer dc_is_integer pm_is_integer cd_is_integer ct_is_integer : Value}
  {f_is_whole : Addr} {od_is_whole an_is_whole : Option Addr} {sl_is_whole : Array (Option Value)} {oc_is_whole kV_is_whole dc_is_whole pm_is_whole cd_is_whole ct_is_whole : Value}
  {f_is_corner : Addr} {od_is_corner an_is_corner : Option Addr} {sl_is_corner : Array (Option Value)} {oc_is_corner kV_is_corner dc_is_corner pm_is_corner cd_is_corner ct_is_corner : Value}
  {f_shape_fault : Addr} {od_shape_fault an_shape_fault : Option Addr} {sl_shape_fault : Array (Option Value)} {oc_shape_fault kV_shape_fault dc_shape_fault pm_shape_fault cd_shape_fault ct_shape_fault : Value}
  {f_check_shape : Addr} {od_check_shape an_check_shape : Option Addr} {sl_check_shape : Array (Option Value)} {oc_check_shape kV_check_shape dc_check_shape pm_check_shape cd_check_shape ct_check_shape : Value}
  {f__half : Addr} {od__half an__half : Option Addr} {sl__half : Array (Option Value)} {oc__half kV__half dc__half pm__half cd__half ct__half : Value}
  {f_around : Addr} {od_around an_around : Option Addr} {sl_around : Array (Option Value)} {oc_around kV_around dc_around pm_around cd_around ct_around : Value}
  {f_apart_by : Addr} {od_apart_by an_apart_by : Option Addr} {sl_apart_by : Array (Option Value)} {oc_apart_by kV_apart_by dc_apart_by pm_apart_by cd_apart_by ct_apart_by : Value}
  {f_apart_corners : Addr} {od_apart_corners an_apart_corners : Option Addr} {sl_apart_corners : Array (Option Value)} {oc_apart_corners kV_apart_corners dc_apart_corners pm_apart_corners cd_apart_corners ct_apart_corners : Value}
  {f__law_shape : Addr} {od__law_shape an__law_shape : Option Addr} {sl__law_shape : Array (Option Value)} {oc__law_shape kV__law_shape dc__law_shape pm__law_shape cd__law_shape ct__law_shape : Value}
  {f_divisor : Addr} {od_divisor an_divisor : Option Addr} {sl_divisor : Array (Option Value)} {oc_divisor kV_divisor dc_divisor pm_divisor cd_divisor ct_divisor : Value}
  {f_sides_by : Addr} {od_sides_by an_sides_by : Option Addr} {sl_sides_by : Array (Option Value)} {oc_sides_by kV_sides_by dc_sides_by pm_sides_by cd_sides_by ct_sides_by : Value}
  {f_sides_of : Addr} {od_sides_of an_sides_of : Option Addr} {sl_sides_of : Array (Option Value)} {oc_sides_of kV_sides_of dc_sides_of pm_sides_of cd_sides_of ct_sides_of : Value}
  {f_is_number : Addr} {od_is_number an_is_number : Option Addr} {sl_is_number : Array (Option Value)} {oc_is_number kV_is_number dc_is_number pm_is_number cd_is_number ct_is_number : Value}
  {f_is_point : Addr} {od_is_point an_is_point : Option Addr} {sl_is_point : Array (Option Value)} {oc_is_point kV_is_point dc_is_point pm_is_point cd_is_point ct_is_point : Value}
  {f_check_points : Addr} {od_check_points an_check_points : Option Addr} {sl_check_points : Array (Option Value)} {oc_check_points kV_check_points dc_check_points pm_check_points cd_check_points ct_check_points : Value}
  {f_order : Addr} {od_order an_order : Option Addr} {sl_order : Array (Option Value)} {oc_order kV_order dc_order pm_order cd_order ct_order : Value}
  {f_made : Addr} {od_made an_made : Option Addr} {sl_made : Array (Option Value)} {oc_made kV_made dc_made pm_made cd_made ct_made : Value}
  {f_sum_of : Addr} {od_sum_of an_sum_of : Option Addr} {sl_sum_of : Array (Option Value)} {oc_sum_of kV_sum_of dc_sum_of pm_sum_of cd_sum_of ct_sum_of : Value}
  {f_product : Addr} {od_product an_product : Option Addr} {sl_product : Array (Option Value)} {oc_product kV_product dc_product pm_product cd_product ct_product : Value}
  {f_dot_by : Addr} {od_dot_by an_dot_by : Option Addr} {sl_dot_by : Array (Option Value)} {oc_dot_by kV_dot_by dc_dot_by pm_dot_by cd_dot_by ct_dot_by : Value}
  {f_whole_way : Addr} {od_whole_way an_whole_way : Option Addr} {sl_whole_way : Array (Option Value)} {oc_whole_way kV_whole_way dc_whole_way pm_whole_way cd_whole_way ct_whole_way : Value}
  {f_where_by : Addr} {od_where_by an_where_by : Option Addr} {sl_where_by : Array (Option Value)} {oc_where_by kV_where_by dc_where_by pm_where_by cd_where_by ct_where_by : Value}
  {f_where : Addr} {od_where an_where : Option Addr} {sl_where : Array (Option Value)} {oc_where kV_where dc_where pm_where cd_where ct_where : Value}
  {f_twice_area : Addr} {od_twice_area an_twice_area : Option Addr} {sl_twice_area : Array (Option Value)} {oc_twice_area kV_twice_area dc_twice_area pm_twice_area cd_twice_area ct_twice_area : Value}
  {f_least_first : Addr} {od_least_first an_least_first : Option Addr} {sl_least_first : Array (Option Value)} {oc_least_first kV_least_first dc_least_first pm_least_first cd_least_first ct_least_first : Value}
  {f_opposite_by : Addr} {od_opposite_by an_opposite_by : Option Addr} {sl_opposite_by : Array (Option Value)} {oc_opposite_by kV_opposite_by dc_opposite_by pm_opposite_by cd_opposite_by ct_opposite_by : Value}
  {f_opposite : Addr} {od_opposite an_opposite : Option Addr} {sl_opposite : Array (Option Value)} {oc_opposite kV_opposite dc_opposite pm_opposite cd_opposite ct_opposite : Value}
  {f_apart_sides : Addr} {od_apart_sides an_apart_sides : Option Addr} {sl_apart_sides : Array (Option Value)} {oc_apart_sides kV_apart_sides dc_apart_sides pm_apart_sides cd_apart_sides ct_apart_sides : Value}
  {f_text_of_shape : Addr} {od_text_of_shape an_text_of_shape : Option Addr} {sl_text_of_shape : Array (Option Value)} {oc_text_of_shape kV_text_of_shape dc_text_of_shape pm_text_of_shape cd_text_of_shape ct_text_of_shape : Value}
  {f_shape_text : Addr} {od_shape_text an_shape_text : Option Addr} {sl_shape_text : Array (Option Value)} {oc_shape_text kV_shape_text dc_shape_text pm_shape_text cd_shape_text ct_shape_text : Value}
  {f_integer_of : Addr} {od_integer_of an_integer_of : Option Addr} {sl_integer_of : Array (Option Value)} {oc_integer_of kV_integer_of dc_integer_of pm_integer_of cd_integer_of ct_integer_of : Value}
  {f_read_shape : Addr} {od_read_shape an_read_shape : Option Addr} {sl_read_shape : Array (Option Value)} {oc_read_shape kV_read_shape dc_read_shape pm_read_shape cd_read_shape ct_read_shape : Value}
  {f_shape_of : Addr} {od_shape_of an_shape_of : Option Addr} {sl_shape_of : Array (Option Value)} {oc_shape_of kV_shape_of dc_shape_of pm_shape_of cd_shape_of ct_shape_of : Value}
  {f__law_error : Addr} {od__law_error an__law_error : Option Addr} {sl__law_error : Array (Option Value)} {oc__law_error kV__law_error dc__law_error pm__law_error cd__law_error ct__law_error : Value}
  {f__law_turn : Addr} {od__law_turn an__law_turn : Option Addr} {sl__law_turn : Array (Option Value)} {oc__law_turn kV__law_turn dc__law_turn pm__law_turn cd__law_turn ct__law_turn : Value}
  {f__law_fault : Addr} {od__law_fault an__law_fault : Option Addr} {sl__law_fault : Array (Option Value)} {oc__law_fault kV__law_fault dc__law_fault pm__law_fault cd__law_fault ct__law_fault : Value}
  {f__law_sides : Addr} {od__law_sides an__law_sides : Option Addr} {sl__law_sides : Array (Option Value)} {oc__law_sides kV__law_sides dc__law_sides pm__law_sides cd__law_sides ct__law_sides : Value}
  {f__law_round : Addr} {od__law_round an__law_round : Option Addr} {sl__law_round : Array (Option Value)} {oc__law_round kV__law_round dc__law_round pm__law_round cd__law_round ct__law_round : Value}
  {f__law_frac : Addr} {od__law_frac an__law_frac : Option Addr} {sl__law_frac : Array (Option Value)} {oc__law_frac kV__law_frac dc__law_frac pm__law_frac cd__law_frac ct__law_frac : Value}
  {f__law_where : Addr} {od__law_where an__law_where : Option Addr} {sl__law_where : Array (Option Value)} {oc__law_where kV__law_where dc__law_where pm__law_where cd__law_where ct__law_where : Value}
  {f_law : Addr} {od_law an_law : Option Addr} {sl_law : Array (Option Value)} {oc_law kV_law dc_law pm_law cd_law ct_law : Value}
  (z_abs : PySem.W.nsIn K mainGlobals "abs" = some none)
  (z_all : PySem.W.nsIn K mainGlobals "all" = some none)
  (z_bool : PySem.W.nsIn K mainGlobals "bool" = some none)
  (z_enumerate : PySem.W.nsIn K mainGlobals "enumerate" = some none)
  (z_int : PySem.W.nsIn K mainGlobals "int" = some none)
  (z_isinstance : PySem.W.nsIn K mainGlobals "isinstance" = some none)
  (z_len : PySem.W.nsIn K mainGlobals "len" = some none)
  (z_list : PySem.W.nsIn K mainGlobals "list" = some none)
  (z_max : PySem.W.nsIn K mainGlobals "max" = some none)
  (z_min : PySem.W.nsIn K mainGlobals "min" = some none)
  (z_range : PySem.W.nsIn K mainGlobals "range" = some none)
  (z_sorted : PySem.W.nsIn K mainGlobals "sorted" = some none)
  (z_str : PySem.W.nsIn K mainGlobals "str" = some none)
  (z_sum : PySem.W.nsIn K mainGlobals "sum" = some none)
  (z_tuple : PySem.W.nsIn K mainGlobals "tuple" = some none)
  (z_zip : PySem.W.nsIn K mainGlobals "zip" = some none)
  (k_FIGURES : PySem.W.nsIn K mainGlobals "FIGURES" = some (some (.str "0123456789" t_FIGURES)))
  (k_FORM : PySem.W.nsIn K mainGlobals "FORM" = some (some (.ref t_FORM))) (kt_FORM : K.lookup t_FORM = some ⟨.type "tuple", to_FORM, .seq #[.str "form" tk0_FORM] tn_FORM, ts_FORM⟩)
  (k_IN : PySem.W.nsIn K mainGlobals "IN" = some (some (.str "in" t_IN)))
  (k_MOST_CORNERS : PySem.W.nsIn K mainGlobals "MOST_CORNERS" = some (some (.int 8 t_MOST_CORNERS)))
  (k_MOST_FIGURES : PySem.W.nsIn K mainGlobals "MOST_FIGURES" = some (some (.int 300 t_MOST_FIGURES)))
  (k_MOST_SIDE : PySem.W.nsIn K mainGlobals "MOST_SIDE" = some (some (.int 30 t_MOST_SIDE)))
  (k_ON : PySem.W.nsIn K mainGlobals "ON" = some (some (.str "on" t_ON)))
  (k_OUT : PySem.W.nsIn K mainGlobals "OUT" = some (some (.str "out" t_OUT)))
  (xa_BadPoint : PySem.W.nsIn K mainGlobals "BadPoint" = some (some (.ref C_BadPoint))) (xe_BadPoint : PySem.W.excIn K C_BadPoint [.type "ValueError", .type "Exception", .type "BaseException", .type "object"] "ValueError.__new__" = true) (xk_BadPoint : PySem.W.keepIn K (.ref C_BadPoint) = true) (xb_BadPoint : PySem.W.subIn K (.ref C_BadPoint) (.type "BaseException") = some true) (xt_BadPoint : PySem.W.typeIn K (.ref C_BadPoint) = some (.type "type")) (xd_BadPoint : PySem.W.hasDictIn K C_BadPoint = true)
  (xa_BadShape : PySem.W.nsIn K mainGlobals "BadShape" = some (some (.ref C_BadShape))) (xe_BadShape : PySem.W.excIn K C_BadShape [.type "ValueError", .type "Exception", .type "BaseException", .type "object"] "ValueError.__new__" = true) (xk_BadShape : PySem.W.keepIn K (.ref C_BadShape) = true) (xb_BadShape : PySem.W.subIn K (.ref C_BadShape) (.type "BaseException") = some true) (xt_BadShape : PySem.W.typeIn K (.ref C_BadShape) = some (.type "type")) (xd_BadShape : PySem.W.hasDictIn K C_BadShape = true)
  (xa_BadText : PySem.W.nsIn K mainGlobals "BadText" = some (some (.ref C_BadText))) (xe_BadText : PySem.W.excIn K C_BadText [.type "ValueError", .type "Exception", .type "BaseException", .type "object"] "ValueError.__new__" = true) (xk_BadText : PySem.W.keepIn K (.ref C_BadText) = true) (xb_BadText : PySem.W.subIn K (.ref C_BadText) (.type "BaseException") = some true) (xt_BadText : PySem.W.typeIn K (.ref C_BadText) = some (.type "type")) (xd_BadText : PySem.W.hasDictIn K C_BadText = true)
  (s_BadPoint_BadPoint : PySem.W.subIn K (.ref C_BadPoint) (.ref C_BadPoint) = some true)
  (s_BadPoint_BadShape : PySem.W.subIn K (.ref C_BadPoint) (.ref C_BadShape) = some false)
  (s_BadPoint_BadText : PySem.W.subIn K (.ref C_BadPoint) (.ref C_BadText) = some false)
  (s_BadShape_BadPoint : PySem.W.subIn K (.ref C_BadShape) (.ref C_BadPoint) = some false)
  (s_BadShape_BadShape : PySem.W.subIn K (.ref C_BadShape) (.ref C_BadShape) = some true)
  (s_BadShape_BadText : PySem.W.subIn K (.ref C_BadShape) (.ref C_BadText) = some false)
  (s_BadText_BadPoint : PySem.W.subIn K (.ref C_BadText) (.ref C_BadPoint) = some false)
  (s_BadText_BadShape : PySem.W.subIn K (.ref C_BadText) (.ref C_BadShape) = some false)
  (s_BadText_BadText : PySem.W.subIn K (.ref C_BadText) (.ref C_BadText) = some true)
  (a__law_draws : PySem.W.nsIn K mainGlobals "_law_draws" = some (some (.ref f__law_draws))) (l__law_draws : K.lookup f__law_draws = some ⟨oc__law_draws, od__law_draws, .func (PySem.W.fnOf "_law_draws" "_law_draws" (defArgs s__law_draws) (defBody s__law_draws) (defScope s__law_draws) .none kV__law_draws dc__law_draws pm__law_draws an__law_draws cd__law_draws ct__law_draws), sl__law_draws⟩) (c__law_draws : PySem.W.codeIn K cd__law_draws "_law_draws" = true) (k__law_draws : PySem.W.keepIn K (.ref f__law_draws) = true)
  (a_turn : PySem.W.nsIn K mainGlobals "turn" = some (some (.ref f_turn))) (l_turn : K.lookup f_turn = some ⟨oc_turn, od_turn, .func (PySem.W.fnOf "turn" "turn" (defArgs s_turn) (defBody s_turn) (defScope s_turn) .none kV_turn dc_turn pm_turn an_turn cd_turn ct_turn), sl_turn⟩) (c_turn : PySem.W.codeIn K cd_turn "turn" = true) (k_turn : PySem.W.keepIn K (.ref f_turn) = true)
  (a__is_round : PySem.W.nsIn K mainGlobals "_is_round" = some (some (.ref f__is_round))) (l__is_round : K.lookup f__is_round = some ⟨oc__is_round, od__is_round, .func (PySem.W.fnOf "_is_round" "_is_round" (defArgs s__is_round) (defBody s__is_round) (defScope s__is_round) .none kV__is_round dc__is_round pm__is_round an__is_round cd__is_round ct__is_round), sl__is_round⟩) (c__is_round : PySem.W.codeIn K cd__is_round "_is_round" = true) (k__is_round : PySem.W.keepIn K (.ref f__is_round) = true)
  (a_is_integer : PySem.W.nsIn K mainGlobals "is_integer" = some (some (.ref f_is_integer))) (l_is_integer : K.lookup f_is_integer = some ⟨oc_is_integer, od_is_integer, .func (PySem.W.fnOf "is_integer" "is_integer" (defArgs s_is_integer) (defBody s_is_integer) (defScope s_is_integer) .none kV_is_integer dc_is_integer pm_is_integer an_is_integer cd_is_integer ct_is_integer), sl_is_integer⟩) (c_is_integer : PySem.W.codeIn K cd_is_integer "is_integer" = true) (k_is_integer : PySem.W.keepIn K (.ref f_is_integer) = true)
  (a_is_whole : PySem.W.nsIn K mainGlobals "is_whole" = some (some (.ref f_is_whole))) (l_is_whole : K.lookup f_is_whole = some ⟨oc_is_whole, od_is_whole, .func (PySem.W.fnOf "is_whole" "is_whole" (defArgs s_is_whole) (defBody s_is_whole) (defScope s_is_whole) .none kV_is_whole dc_is_whole pm_is_whole an_is_whole cd_is_whole ct_is_whole), sl_is_whole⟩) (c_is_whole : PySem.W.codeIn K cd_is_whole "is_whole" = true) (k_is_whole : PySem.W.keepIn K (.ref f_is_whole) = true)
  (a_is_corner : PySem.W.nsIn K mainGlobals "is_corner" = some (some (.ref f_is_corner))) (l_is_corner : K.lookup f_is_corner = some ⟨oc_is_corner, od_is_corner, .func (PySem.W.fnOf "is_corner" "is_corner" (defArgs s_is_corner) (defBody s_is_corner) (defScope s_is_corner) .none kV_is_corner dc_is_corner pm_is_corner an_is_corner cd_is_corner ct_is_corner), sl_is_corner⟩) (c_is_corner : PySem.W.codeIn K cd_is_corner "is_corner" = true) (k_is_corner : PySem.W.keepIn K (.ref f_is_corner) = true)
  (a_shape_fault : PySem.W.nsIn K mainGlobals "shape_fault" = some (some (.ref f_shape_fault))) (l_shape_fault : K.lookup f_shape_fault = some ⟨oc_shape_fault, od_shape_fault, .func (PySem.W.fnOf "shape_fault" "shape_fault" (defArgs s_shape_fault) (defBody s_shape_fault) (defScope s_shape_fault) .none kV_shape_fault dc_shape_fault pm_shape_fault an_shape_fault cd_shape_fault ct_shape_fault), sl_shape_fault⟩) (c_shape_fault : PySem.W.codeIn K cd_shape_fault "shape_fault" = true) (k_shape_fault : PySem.W.keepIn K (.ref f_shape_fault) = true)
  (a_check_shape : PySem.W.nsIn K mainGlobals "check_shape" = some (some (.ref f_check_shape))) (l_check_shape : K.lookup f_check_shape = some ⟨oc_check_shape, od_check_shape, .func (PySem.W.fnOf "check_shape" "check_shape" (defArgs s_check_shape) (defBody s_check_shape) (defScope s_check_shape) .none kV_check_shape dc_check_shape pm_check_shape an_check_shape cd_check_shape ct_check_shape), sl_check_shape⟩) (c_check_shape : PySem.W.codeIn K cd_check_shape "check_shape" = true) (k_check_shape : PySem.W.keepIn K (.ref f_check_shape) = true)
  (a__half : PySem.W.nsIn K mainGlobals "_half" = some (some (.ref f__half))) (l__half : K.lookup f__half = some ⟨oc__half, od__half, .func (PySem.W.fnOf "_half" "_half" (defArgs s__half) (defBody s__half) (defScope s__half) .none kV__half dc__half pm__half an__half cd__half ct__half), sl__half⟩) (c__half : PySem.W.codeIn K cd__half "_half" = true) (k__half : PySem.W.keepIn K (.ref f__half) = true)
  (a_around : PySem.W.nsIn K mainGlobals "around" = some (some (.ref f_around))) (l_around : K.lookup f_around = some ⟨oc_around, od_around, .func (PySem.W.fnOf "around" "around" (defArgs s_around) (defBody s_around) (defScope s_around) .none kV_around dc_around pm_around an_around cd_around ct_around), sl_around⟩) (c_around : PySem.W.codeIn K cd_around "around" = true) (k_around : PySem.W.keepIn K (.ref f_around) = true)
  (a_apart_by : PySem.W.nsIn K mainGlobals "apart_by" = some (some (.ref f_apart_by))) (l_apart_by : K.lookup f_apart_by = some ⟨oc_apart_by, od_apart_by, .func (PySem.W.fnOf "apart_by" "apart_by" (defArgs s_apart_by) (defBody s_apart_by) (defScope s_apart_by) .none kV_apart_by dc_apart_by pm_apart_by an_apart_by cd_apart_by ct_apart_by), sl_apart_by⟩) (c_apart_by : PySem.W.codeIn K cd_apart_by "apart_by" = true) (k_apart_by : PySem.W.keepIn K (.ref f_apart_by) = true)
  (a_apart_corners : PySem.W.nsIn K mainGlobals "apart_corners" = some (some (.ref f_apart_corners))) (l_apart_corners : K.lookup f_apart_corners = some ⟨oc_apart_corners, od_apart_corners, .func (PySem.W.fnOf "apart_corners" "apart_corners" (defArgs s_apart_corners) (defBody s_apart_corners) (defScope s_apart_corners) .none kV_apart_corners dc_apart_corners pm_apart_corners an_apart_corners cd_apart_corners ct_apart_corners), sl_apart_corners⟩) (c_apart_corners : PySem.W.codeIn K cd_apart_corners "apart_corners" = true) (k_apart_corners : PySem.W.keepIn K (.ref f_apart_corners) = true)
  (a__law_shape : PySem.W.nsIn K mainGlobals "_law_shape" = some (some (.ref f__law_shape))) (l__law_shape : K.lookup f__law_shape = some ⟨oc__law_shape, od__law_shape, .func (PySem.W.fnOf "_law_shape" "_law_shape" (defArgs s__law_shape) (defBody s__law_shape) (defScope s__law_shape) .none kV__law_shape dc__law_shape pm__law_shape an__law_shape cd__law_shape ct__law_shape), sl__law_shape⟩) (c__law_shape : PySem.W.codeIn K cd__law_shape "_law_shape" = true) (k__law_shape : PySem.W.keepIn K (.ref f__law_shape) = true)
  (a_divisor : PySem.W.nsIn K mainGlobals "divisor" = some (some (.ref f_divisor))) (l_divisor : K.lookup f_divisor = some ⟨oc_divisor, od_divisor, .func (PySem.W.fnOf "divisor" "divisor" (defArgs s_divisor) (defBody s_divisor) (defScope s_divisor) .none kV_divisor dc_divisor pm_divisor an_divisor cd_divisor ct_divisor), sl_divisor⟩) (c_divisor : PySem.W.codeIn K cd_divisor "divisor" = true) (k_divisor : PySem.W.keepIn K (.ref f_divisor) = true)
  (a_sides_by : PySem.W.nsIn K mainGlobals "sides_by" = some (some (.ref f_sides_by))) (l_sides_by : K.lookup f_sides_by = some ⟨oc_sides_by, od_sides_by, .func (PySem.W.fnOf "sides_by" "sides_by" (defArgs s_sides_by) (defBody s_sides_by) (defScope s_sides_by) .none kV_sides_by dc_sides_by pm_sides_by an_sides_by cd_sides_by ct_sides_by), sl_sides_by⟩) (c_sides_by : PySem.W.codeIn K cd_sides_by "sides_by" = true) (k_sides_by : PySem.W.keepIn K (.ref f_sides_by) = true)
  (a_sides_of : PySem.W.nsIn K mainGlobals "sides_of" = some (some (.ref f_sides_of))) (l_sides_of : K.lookup f_sides_of = some ⟨oc_sides_of, od_sides_of, .func (PySem.W.fnOf "sides_of" "sides_of" (defArgs s_sides_of) (defBody s_sides_of) (defScope s_sides_of) .none kV_sides_of dc_sides_of pm_sides_of an_sides_of cd_sides_of ct_sides_of), sl_sides_of⟩) (c_sides_of : PySem.W.codeIn K cd_sides_of "sides_of" = true) (k_sides_of : PySem.W.keepIn K (.ref f_sides_of) = true)
  (a_is_number : PySem.W.nsIn K mainGlobals "is_number" = some (some (.ref f_is_number))) (l_is_number : K.lookup f_is_number = some ⟨oc_is_number, od_is_number, .func (PySem.W.fnOf "is_number" "is_number" (defArgs s_is_number) (defBody s_is_number) (defScope s_is_number) .none kV_is_number dc_is_number pm_is_number an_is_number cd_is_number ct_is_number), sl_is_number⟩) (c_is_number : PySem.W.codeIn K cd_is_number "is_number" = true) (k_is_number : PySem.W.keepIn K (.ref f_is_number) = true)
  (a_is_point : PySem.W.nsIn K mainGlobals "is_point" = some (some (.ref f_is_point))) (l_is_point : K.lookup f_is_point = some ⟨oc_is_point, od_is_point, .func (PySem.W.fnOf "is_point" "is_point" (defArgs s_is_point) (defBody s_is_point) (defScope s_is_point) .none kV_is_point dc_is_point pm_is_point an_is_point cd_is_point ct_is_point), sl_is_point⟩) (c_is_point : PySem.W.codeIn K cd_is_point "is_point" = true) (k_is_point : PySem.W.keepIn K (.ref f_is_point) = true)
  (a_check_points : PySem.W.nsIn K mainGlobals "check_points" = some (some (.ref f_check_points))) (l_check_points : K.lookup f_check_points = some ⟨oc_check_points, od_check_points, .func (PySem.W.fnOf "check_points" "check_points" (defArgs s_check_points) (defBody s_check_points) (defScope s_check_points) .none kV_check_points dc_check_points pm_check_points an_check_points cd_check_points ct_check_points), sl_check_points⟩) (c_check_points : PySem.W.codeIn K cd_check_points "check_points" = true) (k_check_points : PySem.W.keepIn K (.ref f_check_points) = true)
  (a_order : PySem.W.nsIn K mainGlobals "order" = some (some (.ref f_order))) (l_order : K.lookup f_order = some ⟨oc_order, od_order, .func (PySem.W.fnOf "order" "order" (defArgs s_order) (defBody s_order) (defScope s_order) .none kV_order dc_order pm_order an_order cd_order ct_order), sl_order⟩) (c_order : PySem.W.codeIn K cd_order "order" = true) (k_order : PySem.W.keepIn K (.ref f_order) = true)
  (a_made : PySem.W.nsIn K mainGlobals "made" = some (some (.ref f_made))) (l_made : K.lookup f_made = some ⟨oc_made, od_made, .func (PySem.W.fnOf "made" "made" (defArgs s_made) (defBody s_made) (defScope s_made) .none kV_made dc_made pm_made an_made cd_made ct_made), sl_made⟩) (c_made : PySem.W.codeIn K cd_made "made" = true) (k_made : PySem.W.keepIn K (.ref f_made) = true)
  (a_sum_of : PySem.W.nsIn K mainGlobals "sum_of" = some (some (.ref f_sum_of))) (l_sum_of : K.lookup f_sum_of = some ⟨oc_sum_of, od_sum_of, .func (PySem.W.fnOf "sum_of" "sum_of" (defArgs s_sum_of) (defBody s_sum_of) (defScope s_sum_of) .none kV_sum_of dc_sum_of pm_sum_of an_sum_of cd_sum_of ct_sum_of), sl_sum_of⟩) (c_sum_of : PySem.W.codeIn K cd_sum_of "sum_of" = true) (k_sum_of : PySem.W.keepIn K (.ref f_sum_of) = true)
  (a_product : PySem.W.nsIn K mainGlobals "product" = some (some (.ref f_product))) (l_product : K.lookup f_product = some ⟨oc_product, od_product, .func (PySem.W.fnOf "product" "product" (defArgs s_product) (defBody s_product) (defScope s_product) .none kV_product dc_product pm_product an_product cd_product ct_product), sl_product⟩) (c_product : PySem.W.codeIn K cd_product "product" = true) (k_product : PySem.W.keepIn K (.ref f_product) = true)
  (a_dot_by : PySem.W.nsIn K mainGlobals "dot_by" = some (some (.ref f_dot_by))) (l_dot_by : K.lookup f_dot_by = some ⟨oc_dot_by, od_dot_by, .func (PySem.W.fnOf "dot_by" "dot_by" (defArgs s_dot_by) (defBody s_dot_by) (defScope s_dot_by) .none kV_dot_by dc_dot_by pm_dot_by an_dot_by cd_dot_by ct_dot_by), sl_dot_by⟩) (c_dot_by : PySem.W.codeIn K cd_dot_by "dot_by" = true) (k_dot_by : PySem.W.keepIn K (.ref f_dot_by) = true)
  (a_whole_way : PySem.W.nsIn K mainGlobals "whole_way" = some (some (.ref f_whole_way))) (l_whole_way : K.lookup f_whole_way = some ⟨oc_whole_way, od_whole_way, .func (PySem.W.fnOf "whole_way" "whole_way" (defArgs s_whole_way) (defBody s_whole_way) (defScope s_whole_way) .none kV_whole_way dc_whole_way pm_whole_way an_whole_way cd_whole_way ct_whole_way), sl_whole_way⟩) (c_whole_way : PySem.W.codeIn K cd_whole_way "whole_way" = true) (k_whole_way : PySem.W.keepIn K (.ref f_whole_way) = true)
  (a_where_by : PySem.W.nsIn K mainGlobals "where_by" = some (some (.ref f_where_by))) (l_where_by : K.lookup f_where_by = some ⟨oc_where_by, od_where_by, .func (PySem.W.fnOf "where_by" "where_by" (defArgs s_where_by) (defBody s_where_by) (defScope s_where_by) .none kV_where_by dc_where_by pm_where_by an_where_by cd_where_by ct_where_by), sl_where_by⟩) (c_where_by : PySem.W.codeIn K cd_where_by "where_by" = true) (k_where_by : PySem.W.keepIn K (.ref f_where_by) = true)
  (a_where : PySem.W.nsIn K mainGlobals "where" = some (some (.ref f_where))) (l_where : K.lookup f_where = some ⟨oc_where, od_where, .func (PySem.W.fnOf "where" "where" (defArgs s_where) (defBody s_where) (defScope s_where) .none kV_where dc_where pm_where an_where cd_where ct_where), sl_where⟩) (c_where : PySem.W.codeIn K cd_where "where" = true) (k_where : PySem.W.keepIn K (.ref f_where) = true)
  (a_twice_area : PySem.W.nsIn K mainGlobals "twice_area" = some (some (.ref f_twice_area))) (l_twice_area : K.lookup f_twice_area = some ⟨oc_twice_area, od_twice_area, .func (PySem.W.fnOf "twice_area" "twice_area" (defArgs s_twice_area) (defBody s_twice_area) (defScope s_twice_area) .none kV_twice_area dc_twice_area pm_twice_area an_twice_area cd_twice_area ct_twice_area), sl_twice_area⟩) (c_twice_area : PySem.W.codeIn K cd_twice_area "twice_area" = true) (k_twice_area : PySem.W.keepIn K (.ref f_twice_area) = true)
  (a_least_first : PySem.W.nsIn K mainGlobals "least_first" = some (some (.ref f_least_first))) (l_least_first : K.lookup f_least_first = some ⟨oc_least_first, od_least_first, .func (PySem.W.fnOf "least_first" "least_first" (defArgs s_least_first) (defBody s_least_first) (defScope s_least_first) .none kV_least_first dc_least_first pm_least_first an_least_first cd_least_first ct_least_first), sl_least_first⟩) (c_least_first : PySem.W.codeIn K cd_least_first "least_first" = true) (k_least_first : PySem.W.keepIn K (.ref f_least_first) = true)
  (a_opposite_by : PySem.W.nsIn K mainGlobals "opposite_by" = some (some (.ref f_opposite_by))) (l_opposite_by : K.lookup f_opposite_by = some ⟨oc_opposite_by, od_opposite_by, .func (PySem.W.fnOf "opposite_by" "opposite_by" (defArgs s_opposite_by) (defBody s_opposite_by) (defScope s_opposite_by) .none kV_opposite_by dc_opposite_by pm_opposite_by an_opposite_by cd_opposite_by ct_opposite_by), sl_opposite_by⟩) (c_opposite_by : PySem.W.codeIn K cd_opposite_by "opposite_by" = true) (k_opposite_by : PySem.W.keepIn K (.ref f_opposite_by) = true)
  (a_opposite : PySem.W.nsIn K mainGlobals "opposite" = some (some (.ref f_opposite))) (l_opposite : K.lookup f_opposite = some ⟨oc_opposite, od_opposite, .func (PySem.W.fnOf "opposite" "opposite" (defArgs s_opposite) (defBody s_opposite) (defScope s_opposite) .none kV_opposite dc_opposite pm_opposite an_opposite cd_opposite ct_opposite), sl_opposite⟩) (c_opposite : PySem.W.codeIn K cd_opposite "opposite" = true) (k_opposite : PySem.W.keepIn K (.ref f_opposite) = true)
  (a_apart_sides : PySem.W.nsIn K mainGlobals "apart_sides" = some (some (.ref f_apart_sides))) (l_apart_sides : K.lookup f_apart_sides = some ⟨oc_apart_sides, od_apart_sides, .func (PySem.W.fnOf "apart_sides" "apart_sides" (defArgs s_apart_sides) (defBody s_apart_sides) (defScope s_apart_sides) .none kV_apart_sides dc_apart_sides pm_apart_sides an_apart_sides cd_apart_sides ct_apart_sides), sl_apart_sides⟩) (c_apart_sides : PySem.W.codeIn K cd_apart_sides "apart_sides" = true) (k_apart_sides : PySem.W.keepIn K (.ref f_apart_sides) = true)
  (a_text_of_shape : PySem.W.nsIn K mainGlobals "text_of_shape" = some (some (.ref f_text_of_shape))) (l_text_of_shape : K.lookup f_text_of_shape = some ⟨oc_text_of_shape, od_text_of_shape, .func (PySem.W.fnOf "text_of_shape" "text_of_shape" (defArgs s_text_of_shape) (defBody s_text_of_shape) (defScope s_text_of_shape) .none kV_text_of_shape dc_text_of_shape pm_text_of_shape an_text_of_shape cd_text_of_shape ct_text_of_shape), sl_text_of_shape⟩) (c_text_of_shape : PySem.W.codeIn K cd_text_of_shape "text_of_shape" = true) (k_text_of_shape : PySem.W.keepIn K (.ref f_text_of_shape) = true)
  (a_shape_text : PySem.W.nsIn K mainGlobals "shape_text" = some (some (.ref f_shape_text))) (l_shape_text : K.lookup f_shape_text = some ⟨oc_shape_text, od_shape_text, .func (PySem.W.fnOf "shape_text" "shape_text" (defArgs s_shape_text) (defBody s_shape_text) (defScope s_shape_text) .none kV_shape_text dc_shape_text pm_shape_text an_shape_text cd_shape_text ct_shape_text), sl_shape_text⟩) (c_shape_text : PySem.W.codeIn K cd_shape_text "shape_text" = true) (k_shape_text : PySem.W.keepIn K (.ref f_shape_text) = true)
  (a_integer_of : PySem.W.nsIn K mainGlobals "integer_of" = some (some (.ref f_integer_of))) (l_integer_of : K.lookup f_integer_of = some ⟨oc_integer_of, od_integer_of, .func (PySem.W.fnOf "integer_of" "integer_of" (defArgs s_integer_of) (defBody s_integer_of) (defScope s_integer_of) .none kV_integer_of dc_integer_of pm_integer_of an_integer_of cd_integer_of ct_integer_of), sl_integer_of⟩) (c_integer_of : PySem.W.codeIn K cd_integer_of "integer_of" = true) (k_integer_of : PySem.W.keepIn K (.ref f_integer_of) = true)
  (a_read_shape : PySem.W.nsIn K mainGlobals "read_shape" = some (some (.ref f_read_shape))) (l_read_shape : K.lookup f_read_shape = some ⟨oc_read_shape, od_read_shape, .func (PySem.W.fnOf "read_shape" "read_shape" (defArgs s_read_shape) (defBody s_read_shape) (defScope s_read_shape) .none kV_read_shape dc_read_shape pm_read_shape an_read_shape cd_read_shape ct_read_shape), sl_read_shape⟩) (c_read_shape : PySem.W.codeIn K cd_read_shape "read_shape" = true) (k_read_shape : PySem.W.keepIn K (.ref f_read_shape) = true)
  (a_shape_of : PySem.W.nsIn K mainGlobals "shape_of" = some (some (.ref f_shape_of))) (l_shape_of : K.lookup f_shape_of = some ⟨oc_shape_of, od_shape_of, .func (PySem.W.fnOf "shape_of" "shape_of" (defArgs s_shape_of) (defBody s_shape_of) (defScope s_shape_of) .none kV_shape_of dc_shape_of pm_shape_of an_shape_of cd_shape_of ct_shape_of), sl_shape_of⟩) (c_shape_of : PySem.W.codeIn K cd_shape_of "shape_of" = true) (k_shape_of : PySem.W.keepIn K (.ref f_shape_of) = true)
  (a__law_error : PySem.W.nsIn K mainGlobals "_law_error" = some (some (.ref f__law_error))) (l__law_error : K.lookup f__law_error = some ⟨oc__law_error, od__law_error, .func (PySem.W.fnOf "_law_error" "_law_error" (defArgs s__law_error) (defBody s__law_error) (defScope s__law_error) .none kV__law_error dc__law_error pm__law_error an__law_error cd__law_error ct__law_error), sl__law_error⟩) (c__law_error : PySem.W.codeIn K cd__law_error "_law_error" = true) (k__law_error : PySem.W.keepIn K (.ref f__law_error) = true)
  (a__law_turn : PySem.W.nsIn K mainGlobals "_law_turn" = some (some (.ref f__law_turn))) (l__law_turn : K.lookup f__law_turn = some ⟨oc__law_turn, od__law_turn, .func (PySem.W.fnOf "_law_turn" "_law_turn" (defArgs s__law_turn) (defBody s__law_turn) (defScope s__law_turn) .none kV__law_turn dc__law_turn pm__law_turn an__law_turn cd__law_turn ct__law_turn), sl__law_turn⟩) (c__law_turn : PySem.W.codeIn K cd__law_turn "_law_turn" = true) (k__law_turn : PySem.W.keepIn K (.ref f__law_turn) = true)
  (a__law_fault : PySem.W.nsIn K mainGlobals "_law_fault" = some (some (.ref f__law_fault))) (l__law_fault : K.lookup f__law_fault = some ⟨oc__law_fault, od__law_fault, .func (PySem.W.fnOf "_law_fault" "_law_fault" (defArgs s__law_fault) (defBody s__law_fault) (defScope s__law_fault) .none kV__law_fault dc__law_fault pm__law_fault an__law_fault cd__law_fault ct__law_fault), sl__law_fault⟩) (c__law_fault : PySem.W.codeIn K cd__law_fault "_law_fault" = true) (k__law_fault : PySem.W.keepIn K (.ref f__law_fault) = true)
  (a__law_sides : PySem.W.nsIn K mainGlobals "_law_sides" = some (some (.ref f__law_sides))) (l__law_sides : K.lookup f__law_sides = some ⟨oc__law_sides, od__law_sides, .func (PySem.W.fnOf "_law_sides" "_law_sides" (defArgs s__law_sides) (defBody s__law_sides) (defScope s__law_sides) .none kV__law_sides dc__law_sides pm__law_sides an__law_sides cd__law_sides ct__law_sides), sl__law_sides⟩) (c__law_sides : PySem.W.codeIn K cd__law_sides "_law_sides" = true) (k__law_sides : PySem.W.keepIn K (.ref f__law_sides) = true)
  (a__law_round : PySem.W.nsIn K mainGlobals "_law_round" = some (some (.ref f__law_round))) (l__law_round : K.lookup f__law_round = some ⟨oc__law_round, od__law_round, .func (PySem.W.fnOf "_law_round" "_law_round" (defArgs s__law_round) (defBody s__law_round) (defScope s__law_round) .none kV__law_round dc__law_round pm__law_round an__law_round cd__law_round ct__law_round), sl__law_round⟩) (c__law_round : PySem.W.codeIn K cd__law_round "_law_round" = true) (k__law_round : PySem.W.keepIn K (.ref f__law_round) = true)
  (a__law_frac : PySem.W.nsIn K mainGlobals "_law_frac" = some (some (.ref f__law_frac))) (l__law_frac : K.lookup f__law_frac = some ⟨oc__law_frac, od__law_frac, .func (PySem.W.fnOf "_law_frac" "_law_frac" (defArgs s__law_frac) (defBody s__law_frac) (defScope s__law_frac) .none kV__law_frac dc__law_frac pm__law_frac an__law_frac cd__law_frac ct__law_frac), sl__law_frac⟩) (c__law_frac : PySem.W.codeIn K cd__law_frac "_law_frac" = true) (k__law_frac : PySem.W.keepIn K (.ref f__law_frac) = true)
  (a__law_where : PySem.W.nsIn K mainGlobals "_law_where" = some (some (.ref f__law_where))) (l__law_where : K.lookup f__law_where = some ⟨oc__law_where, od__law_where, .func (PySem.W.fnOf "_law_where" "_law_where" (defArgs s__law_where) (defBody s__law_where) (defScope s__law_where) .none kV__law_where dc__law_where pm__law_where an__law_where cd__law_where ct__law_where), sl__law_where⟩) (c__law_where : PySem.W.codeIn K cd__law_where "_law_where" = true) (k__law_where : PySem.W.keepIn K (.ref f__law_where) = true)
  (a_law : PySem.W.nsIn K mainGlobals "law" = some (some (.ref f_law))) (l_law : K.lookup f_law = some ⟨oc_law, od_law, .func (PySem.W.fnOf "law" "law" (defArgs s_law) (defBody s_law) (defScope s_law) .none kV_law dc_law pm_law an_law cd_law ct_law), sl_law⟩) (c_law : PySem.W.codeIn K cd_law "law" = true) (k_law : PySem.W.keepIn K (.ref f_law) = true) : Txt K mg :=
  { n_abs := PySem.W.mg_none_of X G z_abs,
    n_all := PySem.W.mg_none_of X G z_all,
    n_bool := PySem.W.mg_none_of X G z_bool,
    n_enumerate := PySem.W.mg_none_of X G z_enumerate,
    n_int := PySem.W.mg_none_of X G z_int,
    n_isinstance := PySem.W.mg_none_of X G z_isinstance,
    n_len := PySem.W.mg_none_of X G z_len,
    n_list := PySem.W.mg_none_of X G z_list,
    n_max := PySem.W.mg_none_of X G z_max,
    n_min := PySem.W.mg_none_of X G z_min,
    n_range := PySem.W.mg_none_of X G z_range,
    n_sorted := PySem.W.mg_none_of X G z_sorted,
    n_str := PySem.W.mg_none_of X G z_str,
    n_sum := PySem.W.mg_none_of X G z_sum,
    n_tuple := PySem.W.mg_none_of X G z_tuple,
    n_zip := PySem.W.mg_none_of X G z_zip,
    t_FIGURES := t_FIGURES, c_FIGURES := PySem.W.mg_of X G k_FIGURES,
    t_FORM := t_FORM, c_FORM := ⟨PySem.W.mg_of X G k_FORM, fun _ => .tup (xs := [.str "form"]) (.inr ⟨_, _, _, kt_FORM, rfl, rfl, (show 1 ≤ sizeLine by decide), (.cons ⟨_, rfl⟩ .nil)⟩) (.cons (.str _) .nil)⟩,
    t_IN := t_IN, c_IN := PySem.W.mg_of X G k_IN,
    t_MOST_CORNERS := t_MOST_CORNERS, c_MOST_CORNERS := PySem.W.mg_of X G k_MOST_CORNERS,
    t_MOST_FIGURES := t_MOST_FIGURES, c_MOST_FIGURES := PySem.W.mg_of X G k_MOST_FIGURES,
    t_MOST_SIDE := t_MOST_SIDE, c_MOST_SIDE := PySem.W.mg_of X G k_MOST_SIDE,
    t_ON := t_ON, c_ON := PySem.W.mg_of X G k_ON,
    t_OUT := t_OUT, c_OUT := PySem.W.mg_of X G k_OUT,
    C_BadPoint := C_BadPoint, x_BadPoint := ⟨PySem.W.mg_of X G xa_BadPoint, xe_BadPoint, xk_BadPoint, xb_BadPoint, xt_BadPoint⟩,
    C_BadShape := C_BadShape, x_BadShape := ⟨PySem.W.mg_of X G xa_BadShape, xe_BadShape, xk_BadShape, xb_BadShape, xt_BadShape⟩,
    C_BadText := C_BadText, x_BadText := ⟨PySem.W.mg_of X G xa_BadText, xe_BadText, xk_BadText, xb_BadText, xt_BadText⟩,
    exs := fun x hx y hy c c' hc hc' => by
      simp only [List.mem_cons, List.not_mem_nil, or_false] at hx hy
      rcases hx with rfl|rfl|rfl <;> rcases hy with rfl|rfl|rfl
      · rw [PySem.W.mg_of X G xa_BadPoint] at hc; rw [PySem.W.mg_of X G xa_BadPoint] at hc'; cases hc; cases hc'; rw [show decide (("BadPoint" : Str) = "BadPoint") = true by decide]; exact PySem.W.exm_ref xb_BadPoint xd_BadPoint xt_BadPoint s_BadPoint_BadPoint
      · rw [PySem.W.mg_of X G xa_BadPoint] at hc; rw [PySem.W.mg_of X G xa_BadShape] at hc'; cases hc; cases hc'; rw [show decide (("BadPoint" : Str) = "BadShape") = false by decide]; exact PySem.W.exm_ref xb_BadShape xd_BadShape xt_BadShape s_BadPoint_BadShape
      · rw [PySem.W.mg_of X G xa_BadPoint] at hc; rw [PySem.W.mg_of X G xa_BadText] at hc'; cases hc; cases hc'; rw [show decide (("BadPoint" : Str) = "BadText") = false by decide]; exact PySem.W.exm_ref xb_BadText xd_BadText xt_BadText s_BadPoint_BadText
      · rw [PySem.W.mg_of X G xa_BadShape] at hc; rw [PySem.W.mg_of X G xa_BadPoint] at hc'; cases hc; cases hc'; rw [show decide (("BadShape" : Str) = "BadPoint") = false by decide]; exact PySem.W.exm_ref xb_BadPoint xd_BadPoint xt_BadPoint s_BadShape_BadPoint
      · rw [PySem.W.mg_of X G xa_BadShape] at hc; rw [PySem.W.mg_of X G xa_BadShape] at hc'; cases hc; cases hc'; rw [show decide (("BadShape" : Str) = "BadShape") = true by decide]; exact PySem.W.exm_ref xb_BadShape xd_BadShape xt_BadShape s_BadShape_BadShape
      · rw [PySem.W.mg_of X G xa_BadShape] at hc; rw [PySem.W.mg_of X G xa_BadText] at hc'; cases hc; cases hc'; rw [show decide (("BadShape" : Str) = "BadText") = false by decide]; exact PySem.W.exm_ref xb_BadText xd_BadText xt_BadText s_BadShape_BadText
      · rw [PySem.W.mg_of X G xa_BadText] at hc; rw [PySem.W.mg_of X G xa_BadPoint] at hc'; cases hc; cases hc'; rw [show decide (("BadText" : Str) = "BadPoint") = false by decide]; exact PySem.W.exm_ref xb_BadPoint xd_BadPoint xt_BadPoint s_BadText_BadPoint
      · rw [PySem.W.mg_of X G xa_BadText] at hc; rw [PySem.W.mg_of X G xa_BadShape] at hc'; cases hc; cases hc'; rw [show decide (("BadText" : Str) = "BadShape") = false by decide]; exact PySem.W.exm_ref xb_BadShape xd_BadShape xt_BadShape s_BadText_BadShape
      · rw [PySem.W.mg_of X G xa_BadText] at hc; rw [PySem.W.mg_of X G xa_BadText] at hc'; cases hc; cases hc'; rw [show decide (("BadText" : Str) = "BadText") = true by decide]; exact PySem.W.exm_ref xb_BadText xd_BadText xt_BadText s_BadText_BadText
,
    f__law_draws := f__law_draws, d__law_draws := _, F__law_draws := fun_mk (st := s__law_draws) l__law_draws c__law_draws k__law_draws, g__law_draws := PySem.W.mg_of X G a__law_draws, b__law_draws := (fun_mk (st := s__law_draws) l__law_draws c__law_draws k__law_draws).binds (ps := ["script", "many"]) fun _ _ _ _ _ _ us hl => match us, hl with | [_, _], _ => rfl,
    f_turn := f_turn, d_turn := _, F_turn := fun_mk (st := s_turn) l_turn c_turn k_turn, g_turn := PySem.W.mg_of X G a_turn, b_turn := (fun_mk (st := s_turn) l_turn c_turn k_turn).binds (ps := ["one", "two", "three"]) fun _ _ _ _ _ _ us hl => match us, hl with | [_, _, _], _ => rfl,
    f__is_round := f__is_round, d__is_round := _, F__is_round := fun_mk (st := s__is_round) l__is_round c__is_round k__is_round, g__is_round := PySem.W.mg_of X G a__is_round, b__is_round := (fun_mk (st := s__is_round) l__is_round c__is_round k__is_round).binds (ps := ["corners", "number"]) fun _ _ _ _ _ _ us hl => match us, hl with | [_, _], _ => rfl,
    f_is_integer := f_is_integer, d_is_integer := _, F_is_integer := fun_mk (st := s_is_integer) l_is_integer c_is_integer k_is_integer, g_is_integer := PySem.W.mg_of X G a_is_integer, b_is_integer := (fun_mk (st := s_is_integer) l_is_integer c_is_integer k_is_integer).binds (ps := ["value"]) fun _ _ _ _ _ _ us hl => match us, hl with | [_], _ => rfl,
    f_is_whole := f_is_whole, d_is_whole := _, F_is_whole := fun_mk (st := s_is_whole) l_is_whole c_is_whole k_is_whole, g_is_whole := PySem.W.mg_of X G a_is_whole, b_is_whole := (fun_mk (st := s_is_whole) l_is_whole c_is_whole k_is_whole).binds (ps := ["value", "low", "most"]) fun _ _ _ _ _ _ us hl => match us, hl with | [_, _, _], _ => rfl,
    f_is_corner := f_is_corner, d_is_corner := _, F_is_corner := fun_mk (st := s_is_corner) l_is_corner c_is_corner k_is_corner, g_is_corner := PySem.W.mg_of X G a_is_corner, b_is_corner := (fun_mk (st := s_is_corner) l_is_corner c_is_corner k_is_corner).binds (ps := ["value"]) fun _ _ _ _ _ _ us hl => match us, hl with | [_], _ => rfl,
    f_shape_fault := f_shape_fault, d_shape_fault := _, F_shape_fault := fun_mk (st := s_shape_fault) l_shape_fault c_shape_fault k_shape_fault, g_shape_fault := PySem.W.mg_of X G a_shape_fault, b_shape_fault := (fun_mk (st := s_shape_fault) l_shape_fault c_shape_fault k_shape_fault).binds (ps := ["value"]) fun _ _ _ _ _ _ us hl => match us, hl with | [_], _ => rfl,
    f_check_shape := f_check_shape, d_check_shape := _, F_check_shape := fun_mk (st := s_check_shape) l_check_shape c_check_shape k_check_shape, g_check_shape := PySem.W.mg_of X G a_check_shape, b_check_shape := (fun_mk (st := s_check_shape) l_check_shape c_check_shape k_check_shape).binds (ps := ["shape"]) fun _ _ _ _ _ _ us hl => match us, hl with | [_], _ => rfl,
    f__half := f__half, d__half := _, F__half := fun_mk (st := s__half) l__half c__half k__half, g__half := PySem.W.mg_of X G a__half, b__half := (fun_mk (st := s__half) l__half c__half k__half).binds (ps := ["points"]) fun _ _ _ _ _ _ us hl => match us, hl with | [_], _ => rfl,
    f_around := f_around, d_around := _, F_around := fun_mk (st := s_around) l_around c_around k_around, g_around := PySem.W.mg_of X G a_around, b_around := (fun_mk (st := s_around) l_around c_around k_around).binds (ps := ["points"]) fun _ _ _ _ _ _ us hl => match us, hl with | [_], _ => rfl,
    f_apart_by := f_apart_by, d_apart_by := _, F_apart_by := fun_mk (st := s_apart_by) l_apart_by c_apart_by k_apart_by, g_apart_by := PySem.W.mg_of X G a_apart_by, b_apart_by := (fun_mk (st := s_apart_by) l_apart_by c_apart_by k_apart_by).binds (ps := ["one", "other"]) fun _ _ _ _ _ _ us hl => match us, hl with | [_, _], _ => rfl,
    f_apart_corners := f_apart_corners, d_apart_corners := _, F_apart_corners := fun_mk (st := s_apart_corners) l_apart_corners c_apart_corners k_apart_corners, g_apart_corners := PySem.W.mg_of X G a_apart_corners, b_apart_corners := (fun_mk (st := s_apart_corners) l_apart_corners c_apart_corners k_apart_corners).binds (ps := ["one", "other"]) fun _ _ _ _ _ _ us hl => match us, hl with | [_, _], _ => rfl,
    f__law_shape := f__law_shape, d__law_shape := _, F__law_shape := fun_mk (st := s__law_shape) l__law_shape c__law_shape k__law_shape, g__law_shape := PySem.W.mg_of X G a__law_shape, b__law_shape := (fun_mk (st := s__law_shape) l__law_shape c__law_shape k__law_shape).binds (ps := ["draws"]) fun _ _ _ _ _ _ us hl => match us, hl with | [_], _ => rfl,
    f_divisor := f_divisor, d_divisor := _, F_divisor := fun_mk (st := s_divisor) l_divisor c_divisor k_divisor, g_divisor := PySem.W.mg_of X G a_divisor, b_divisor := (fun_mk (st := s_divisor) l_divisor c_divisor k_divisor).binds (ps := ["one", "other"]) fun _ _ _ _ _ _ us hl => match us, hl with | [_, _], _ => rfl,
    f_sides_by := f_sides_by, d_sides_by := _, F_sides_by := fun_mk (st := s_sides_by) l_sides_by c_sides_by k_sides_by, g_sides_by := PySem.W.mg_of X G a_sides_by, b_sides_by := (fun_mk (st := s_sides_by) l_sides_by c_sides_by k_sides_by).binds (ps := ["corners"]) fun _ _ _ _ _ _ us hl => match us, hl with | [_], _ => rfl,
    f_sides_of := f_sides_of, d_sides_of := _, F_sides_of := fun_mk (st := s_sides_of) l_sides_of c_sides_of k_sides_of, g_sides_of := PySem.W.mg_of X G a_sides_of, b_sides_of := (fun_mk (st := s_sides_of) l_sides_of c_sides_of k_sides_of).binds (ps := ["shape"]) fun _ _ _ _ _ _ us hl => match us, hl with | [_], _ => rfl,
    f_is_number := f_is_number, d_is_number := _, F_is_number := fun_mk (st := s_is_number) l_is_number c_is_number k_is_number, g_is_number := PySem.W.mg_of X G a_is_number, b_is_number := (fun_mk (st := s_is_number) l_is_number c_is_number k_is_number).binds (ps := ["value"]) fun _ _ _ _ _ _ us hl => match us, hl with | [_], _ => rfl,
    f_is_point := f_is_point, d_is_point := _, F_is_point := fun_mk (st := s_is_point) l_is_point c_is_point k_is_point, g_is_point := PySem.W.mg_of X G a_is_point, b_is_point := (fun_mk (st := s_is_point) l_is_point c_is_point k_is_point).binds (ps := ["value"]) fun _ _ _ _ _ _ us hl => match us, hl with | [_], _ => rfl,
    f_check_points := f_check_points, d_check_points := _, F_check_points := fun_mk (st := s_check_points) l_check_points c_check_points k_check_points, g_check_points := PySem.W.mg_of X G a_check_points, b_check_points := (fun_mk (st := s_check_points) l_check_points c_check_points k_check_points).binds (ps := ["values"]) fun _ _ _ _ _ _ us hl => match us, hl with | [_], _ => rfl,
    f_order := f_order, d_order := _, F_order := fun_mk (st := s_order) l_order c_order k_order, g_order := PySem.W.mg_of X G a_order, b_order := (fun_mk (st := s_order) l_order c_order k_order).binds (ps := ["one", "other"]) fun _ _ _ _ _ _ us hl => match us, hl with | [_, _], _ => rfl,
    f_made := f_made, d_made := _, F_made := fun_mk (st := s_made) l_made c_made k_made, g_made := PySem.W.mg_of X G a_made, b_made := (fun_mk (st := s_made) l_made c_made k_made).binds (ps := ["above", "below"]) fun _ _ _ _ _ _ us hl => match us, hl with | [_, _], _ => rfl,
    f_sum_of := f_sum_of, d_sum_of := _, F_sum_of := fun_mk (st := s_sum_of) l_sum_of c_sum_of k_sum_of, g_sum_of := PySem.W.mg_of X G a_sum_of, b_sum_of := (fun_mk (st := s_sum_of) l_sum_of c_sum_of k_sum_of).binds (ps := ["one", "other"]) fun _ _ _ _ _ _ us hl => match us, hl with | [_, _], _ => rfl,
    f_product := f_product, d_product := _, F_product := fun_mk (st := s_product) l_product c_product k_product, g_product := PySem.W.mg_of X G a_product, b_product := (fun_mk (st := s_product) l_product c_product k_product).binds (ps := ["one", "other"]) fun _ _ _ _ _ _ us hl => match us, hl with | [_, _], _ => rfl,
    f_dot_by := f_dot_by, d_dot_by := _, F_dot_by := fun_mk (st := s_dot_by) l_dot_by c_dot_by k_dot_by, g_dot_by := PySem.W.mg_of X G a_dot_by, b_dot_by := (fun_mk (st := s_dot_by) l_dot_by c_dot_by k_dot_by).binds (ps := ["one", "other"]) fun _ _ _ _ _ _ us hl => match us, hl with | [_, _], _ => rfl,
    f_whole_way := f_whole_way, d_whole_way := _, F_whole_way := fun_mk (st := s_whole_way) l_whole_way c_whole_way k_whole_way, g_whole_way := PySem.W.mg_of X G a_whole_way, b_whole_way := (fun_mk (st := s_whole_way) l_whole_way c_whole_way k_whole_way).binds (ps := ["pair"]) fun _ _ _ _ _ _ us hl => match us, hl with | [_], _ => rfl,
    f_where_by := f_where_by, d_where_by := _, F_where_by := fun_mk (st := s_where_by) l_where_by c_where_by k_where_by, g_where_by := PySem.W.mg_of X G a_where_by, b_where_by := (fun_mk (st := s_where_by) l_where_by c_where_by k_where_by).binds (ps := ["sides", "point"]) fun _ _ _ _ _ _ us hl => match us, hl with | [_, _], _ => rfl,
    f_where := f_where, d_where := _, F_where := fun_mk (st := s_where) l_where c_where k_where, g_where := PySem.W.mg_of X G a_where, b_where := (fun_mk (st := s_where) l_where c_where k_where).binds (ps := ["shape", "point"]) fun _ _ _ _ _ _ us hl => match us, hl with | [_, _], _ => rfl,
    f_twice_area := f_twice_area, d_twice_area := _, F_twice_area := fun_mk (st := s_twice_area) l_twice_area c_twice_area k_twice_area, g_twice_area := PySem.W.mg_of X G a_twice_area, b_twice_area := (fun_mk (st := s_twice_area) l_twice_area c_twice_area k_twice_area).binds (ps := ["shape"]) fun _ _ _ _ _ _ us hl => match us, hl with | [_], _ => rfl,
    f_least_first := f_least_first, d_least_first := _, F_least_first := fun_mk (st := s_least_first) l_least_first c_least_first k_least_first, g_least_first := PySem.W.mg_of X G a_least_first, b_least_first := (fun_mk (st := s_least_first) l_least_first c_least_first k_least_first).binds (ps := ["corners"]) fun _ _ _ _ _ _ us hl => match us, hl with | [_], _ => rfl,
    f_opposite_by := f_opposite_by, d_opposite_by := _, F_opposite_by := fun_mk (st := s_opposite_by) l_opposite_by c_opposite_by k_opposite_by, g_opposite_by := PySem.W.mg_of X G a_opposite_by, b_opposite_by := (fun_mk (st := s_opposite_by) l_opposite_by c_opposite_by k_opposite_by).binds (ps := ["shape"]) fun _ _ _ _ _ _ us hl => match us, hl with | [_], _ => rfl,
    f_opposite := f_opposite, d_opposite := _, F_opposite := fun_mk (st := s_opposite) l_opposite c_opposite k_opposite, g_opposite := PySem.W.mg_of X G a_opposite, b_opposite := (fun_mk (st := s_opposite) l_opposite c_opposite k_opposite).binds (ps := ["shape"]) fun _ _ _ _ _ _ us hl => match us, hl with | [_], _ => rfl,
    f_apart_sides := f_apart_sides, d_apart_sides := _, F_apart_sides := fun_mk (st := s_apart_sides) l_apart_sides c_apart_sides k_apart_sides, g_apart_sides := PySem.W.mg_of X G a_apart_sides, b_apart_sides := (fun_mk (st := s_apart_sides) l_apart_sides c_apart_sides k_apart_sides).binds (ps := ["one", "other"]) fun _ _ _ _ _ _ us hl => match us, hl with | [_, _], _ => rfl,
    f_text_of_shape := f_text_of_shape, d_text_of_shape := _, F_text_of_shape := fun_mk (st := s_text_of_shape) l_text_of_shape c_text_of_shape k_text_of_shape, g_text_of_shape := PySem.W.mg_of X G a_text_of_shape, b_text_of_shape := (fun_mk (st := s_text_of_shape) l_text_of_shape c_text_of_shape k_text_of_shape).binds (ps := ["shape"]) fun _ _ _ _ _ _ us hl => match us, hl with | [_], _ => rfl,
    f_shape_text := f_shape_text, d_shape_text := _, F_shape_text := fun_mk (st := s_shape_text) l_shape_text c_shape_text k_shape_text, g_shape_text := PySem.W.mg_of X G a_shape_text, b_shape_text := (fun_mk (st := s_shape_text) l_shape_text c_shape_text k_shape_text).binds (ps := ["shape"]) fun _ _ _ _ _ _ us hl => match us, hl with | [_], _ => rfl,
    f_integer_of := f_integer_of, d_integer_of := _, F_integer_of := fun_mk (st := s_integer_of) l_integer_of c_integer_of k_integer_of, g_integer_of := PySem.W.mg_of X G a_integer_of, b_integer_of := (fun_mk (st := s_integer_of) l_integer_of c_integer_of k_integer_of).binds (ps := ["word"]) fun _ _ _ _ _ _ us hl => match us, hl with | [_], _ => rfl,
    f_read_shape := f_read_shape, d_read_shape := _, F_read_shape := fun_mk (st := s_read_shape) l_read_shape c_read_shape k_read_shape, g_read_shape := PySem.W.mg_of X G a_read_shape, b_read_shape := (fun_mk (st := s_read_shape) l_read_shape c_read_shape k_read_shape).binds (ps := ["text"]) fun _ _ _ _ _ _ us hl => match us, hl with | [_], _ => rfl,
    f_shape_of := f_shape_of, d_shape_of := _, F_shape_of := fun_mk (st := s_shape_of) l_shape_of c_shape_of k_shape_of, g_shape_of := PySem.W.mg_of X G a_shape_of, b_shape_of := (fun_mk (st := s_shape_of) l_shape_of c_shape_of k_shape_of).binds (ps := ["text"]) fun _ _ _ _ _ _ us hl => match us, hl with | [_], _ => rfl,
    f__law_error := f__law_error, d__law_error := _, F__law_error := fun_mk (st := s__law_error) l__law_error c__law_error k__law_error, g__law_error := PySem.W.mg_of X G a__law_error, b__law_error := (fun_mk (st := s__law_error) l__law_error c__law_error k__law_error).binds (ps := ["call", "one", "two"]) fun _ _ _ _ _ _ us hl => match us, hl with | [_, _, _], _ => rfl,
    f__law_turn := f__law_turn, d__law_turn := _, F__law_turn := fun_mk (st := s__law_turn) l__law_turn c__law_turn k__law_turn, g__law_turn := PySem.W.mg_of X G a__law_turn, b__law_turn := (fun_mk (st := s__law_turn) l__law_turn c__law_turn k__law_turn).binds (ps := ["one", "two", "three"]) fun _ _ _ _ _ _ us hl => match us, hl with | [_, _, _], _ => rfl,
    f__law_fault := f__law_fault, d__law_fault := _, F__law_fault := fun_mk (st := s__law_fault) l__law_fault c__law_fault k__law_fault, g__law_fault := PySem.W.mg_of X G a__law_fault, b__law_fault := (fun_mk (st := s__law_fault) l__law_fault c__law_fault k__law_fault).binds (ps := ["value"]) fun _ _ _ _ _ _ us hl => match us, hl with | [_], _ => rfl,
    f__law_sides := f__law_sides, d__law_sides := _, F__law_sides := fun_mk (st := s__law_sides) l__law_sides c__law_sides k__law_sides, g__law_sides := PySem.W.mg_of X G a__law_sides, b__law_sides := (fun_mk (st := s__law_sides) l__law_sides c__law_sides k__law_sides).binds (ps := ["corners"]) fun _ _ _ _ _ _ us hl => match us, hl with | [_], _ => rfl,
    f__law_round := f__law_round, d__law_round := _, F__law_round := fun_mk (st := s__law_round) l__law_round c__law_round k__law_round, g__law_round := PySem.W.mg_of X G a__law_round, b__law_round := (fun_mk (st := s__law_round) l__law_round c__law_round k__law_round).binds (ps := ["points"]) fun _ _ _ _ _ _ us hl => match us, hl with | [_], _ => rfl,
    f__law_frac := f__law_frac, d__law_frac := _, F__law_frac := fun_mk (st := s__law_frac) l__law_frac c__law_frac k__law_frac, g__law_frac := PySem.W.mg_of X G a__law_frac, b__law_frac := (fun_mk (st := s__law_frac) l__law_frac c__law_frac k__law_frac).binds (ps := ["above", "below"]) fun _ _ _ _ _ _ us hl => match us, hl with | [_, _], _ => rfl,
    f__law_where := f__law_where, d__law_where := _, F__law_where := fun_mk (st := s__law_where) l__law_where c__law_where k__law_where, g__law_where := PySem.W.mg_of X G a__law_where, b__law_where := (fun_mk (st := s__law_where) l__law_where c__law_where k__law_where).binds (ps := ["corners", "point"]) fun _ _ _ _ _ _ us hl => match us, hl with | [_, _], _ => rfl,
    f_law := f_law, d_law := _, F_law := fun_mk (st := s_law) l_law c_law k_law, g_law := PySem.W.mg_of X G a_law, b_law := (fun_mk (st := s_law) l_law c_law k_law).binds (ps := ["script"]) fun _ _ _ _ _ _ us hl => match us, hl with | [_], _ => rfl }
theorem law_mk {K : PySem.W.Frag} {mg : Str → Option Value} {fa : Addr} {w : World} (T : Txt K mg) (hfa : mg "law" = some (.ref fa)) : ∃ fd : FuncData, (∀ (s : Shared) (v : Value), BindsTo s fd ⟨[v], []⟩ [("script", v)]) ∧ ∀ base : Heap, K.In base → base.Ns mainGlobals mg → FnOk PySem.Challenge.rw_touchtrue_k01_whole_shapes.prog w K mg base (L2.CX PySem.Challenge.rw_touchtrue_k01_whole_shapes.prog w) 9 fa fd ["script"] (spLaw K) := by
  have e := hfa.symm.trans T.g_law
  cases e
  refine ⟨T.d_law, fun s v => by obtain ⟨_, _, _, _, _, _, _, _, _, e, _, _⟩ := T.F_law.ex; rw [e]; exact .of_eq rfl, fun base _ _ => (ok_law T).imp fun vs H Q E ⟨a, ns, e1, hl, hs, q⟩ => ?_⟩
  subst e1
  refine ⟨H, [scrD ns], .refl _, .one (.scr hs), rfl, ?_⟩
  rw [Mt.law_true ns hl]
  exact fun v G' H' _ r => by cases r; exact q H'
end Wk
open PySem PySem.W PyProof.Rows
theorem PySem.Challenge.cw_touchtrue_k01_whole_shapes_holds : PySem.Challenge.rw_touchtrue_k01_whole_shapes.Holds := by
  w_on; o_law; k_head; (case hw => w_witness2)
  k_fill
  refine L2.walk_of (l := PySem.Challenge.rw_touchtrue_k01_whole_shapes) (n := 63) (k := 9) (x := "script") (CX := fun w => L2.CX PySem.Challenge.rw_touchtrue_k01_whole_shapes.prog w) (sp := fun w => Wk.spLaw _) rfl (by decide) rfl ⟨rfl, by decide, by decide⟩ (fun w h Y => PySem.W.kIn_of Y) ?F (fun _ _ a ns hl _ hS => ⟨a, ns, rfl, hl, hS, fun _ => rfl⟩) (fun _ _ _ _ _ h => by obtain ⟨_, _, _, _, _, _, _, _, _, _, _, _, z⟩ := h; exact z.elim)
  case F =>
    intro w mg fa h KX G hmg
    refine' Wk.law_mk (Wk.mkTxt KX G ?z_abs ?z_all ?z_bool ?z_enumerate ?z_int ?z_isinstance ?z_len ?z_list ?z_max ?z_min ?z_range ?z_sorted ?z_str ?z_sum ?z_tuple ?z_zip ?k_FIGURES ?k_FORM ?kt_FORM ?k_IN ?k_MOST_CORNERS ?k_MOST_FIGURES ?k_MOST_SIDE ?k_ON ?k_OUT ?xa_BadPoint ?xe_BadPoint ?xk_BadPoint ?xb_BadPoint ?xt_BadPoint ?xd_BadPoint ?xa_BadShape ?xe_BadShape ?xk_BadShape ?xb_BadShape ?xt_BadShape ?xd_BadShape ?xa_BadText ?xe_BadText ?xk_BadText ?xb_BadText ?xt_BadText ?xd_BadText ?s_BadPoint_BadPoint ?s_BadPoint_BadShape ?s_BadPoint_BadText ?s_BadShape_BadPoint ?s_BadShape_BadShape ?s_BadShape_BadText ?s_BadText_BadPoint ?s_BadText_BadShape ?s_BadText_BadText ?a__law_draws ?l__law_draws ?c__law_draws ?k__law_draws ?a_turn ?l_turn ?c_turn ?k_turn ?a__is_round ?l__is_round ?c__is_round ?k__is_round ?a_is_integer ?l_is_integer ?c_is_integer ?k_is_integer ?a_is_whole ?l_is_whole ?c_is_whole ?k_is_whole ?a_is_corner ?l_is_corner ?c_is_corner ?k_is_corner ?a_shape_fault ?l_shape_fault ?c_shape_fault ?k_shape_fault ?a_check_shape ?l_check_shape ?c_check_shape ?k_check_shape ?a__half ?l__half ?c__half ?k__half ?a_around ?l_around ?c_around ?k_around ?a_apart_by ?l_apart_by ?c_apart_by ?k_apart_by ?a_apart_corners ?l_apart_corners ?c_apart_corners ?k_apart_corners ?a__law_shape ?l__law_shape ?c__law_shape ?k__law_shape ?a_divisor ?l_divisor ?c_divisor ?k_divisor ?a_sides_by ?l_sides_by ?c_sides_by ?k_sides_by ?a_sides_of ?l_sides_of ?c_sides_of ?k_sides_of ?a_is_number ?l_is_number ?c_is_number ?k_is_number ?a_is_point ?l_is_point ?c_is_point ?k_is_point ?a_check_points ?l_check_points ?c_check_points ?k_check_points ?a_order ?l_order ?c_order ?k_order ?a_made ?l_made ?c_made ?k_made ?a_sum_of ?l_sum_of ?c_sum_of ?k_sum_of ?a_product ?l_product ?c_product ?k_product ?a_dot_by ?l_dot_by ?c_dot_by ?k_dot_by ?a_whole_way ?l_whole_way ?c_whole_way ?k_whole_way ?a_where_by ?l_where_by ?c_where_by ?k_where_by ?a_where ?l_where ?c_where ?k_where ?a_twice_area ?l_twice_area ?c_twice_area ?k_twice_area ?a_least_first ?l_least_first ?c_least_first ?k_least_first ?a_opposite_by ?l_opposite_by ?c_opposite_by ?k_opposite_by ?a_opposite ?l_opposite ?c_opposite ?k_opposite ?a_apart_sides ?l_apart_sides ?c_apart_sides ?k_apart_sides ?a_text_of_shape ?l_text_of_shape ?c_text_of_shape ?k_text_of_shape ?a_shape_text ?l_shape_text ?c_shape_text ?k_shape_text ?a_integer_of ?l_integer_of ?c_integer_of ?k_integer_of ?a_read_shape ?l_read_shape ?c_read_shape ?k_read_shape ?a_shape_of ?l_shape_of ?c_shape_of ?k_shape_of ?a__law_error ?l__law_error ?c__law_error ?k__law_error ?a__law_turn ?l__law_turn ?c__law_turn ?k__law_turn ?a__law_fault ?l__law_fault ?c__law_fault ?k__law_fault ?a__law_sides ?l__law_sides ?c__law_sides ?k__law_sides ?a__law_round ?l__law_round ?c__law_round ?k__law_round ?a__law_frac ?l__law_frac ?c__law_frac ?k__law_frac ?a__law_where ?l__law_where ?c__law_where ?k__law_where ?a_law ?l_law ?c_law ?k_law) hmg
    (case z_abs => k_is); (case z_all => k_is); (case z_bool => k_is); (case z_enumerate => k_is); (case z_int => k_is); (case z_isinstance => k_is); (case z_len => k_is); (case z_list => k_is); (case z_max => k_is); (case z_min => k_is); (case z_range => k_is); (case z_sorted => k_is); (case z_str => k_is); (case z_sum => k_is); (case z_tuple => k_is); (case z_zip => k_is); (case k_FIGURES => k_is); (case k_FORM => k_is); (case kt_FORM => k_is); (case k_IN => k_is); (case k_MOST_CORNERS => k_is); (case k_MOST_FIGURES => k_is); (case k_MOST_SIDE => k_is); (case k_ON => k_is); (case k_OUT => k_is); (case xa_BadPoint => k_is); (case xe_BadPoint => k_exc); (case xk_BadPoint => k_is); (case xb_BadPoint => k_is); (case xt_BadPoint => k_is); (case xd_BadPoint => k_is); (case xa_BadShape => k_is); (case xe_BadShape => k_exc); (case xk_BadShape => k_is); (case xb_BadShape => k_is); (case xt_BadShape => k_is); (case xd_BadShape => k_is); (case xa_BadText => k_is); (case xe_BadText => k_exc); (case xk_BadText => k_is); (case xb_BadText => k_is); (case xt_BadText => k_is); (case xd_BadText => k_is); (case s_BadPoint_BadPoint => k_is); (case s_BadPoint_BadShape => k_is); (case s_BadPoint_BadText => k_is); (case s_BadShape_BadPoint => k_is); (case s_BadShape_BadShape => k_is); (case s_BadShape_BadText => k_is); (case s_BadText_BadPoint => k_is); (case s_BadText_BadShape => k_is); (case s_BadText_BadText => k_is); (case a__law_draws => k_is); (case l__law_draws => k_is); (case c__law_draws => k_is); (case k__law_draws => k_is); (case a_turn => k_is); (case l_turn => k_is); (case c_turn => k_is); (case k_turn => k_is); (case a__is_round => k_is); (case l__is_round => k_is); (case c__is_round => k_is); (case k__is_round => k_is); (case a_is_integer => k_is); (case l_is_integer => k_is); (case c_is_integer => k_is); (case k_is_integer => k_is); (case a_is_whole => k_is); (case l_is_whole => k_is); (case c_is_whole => k_is); (case k_is_whole => k_is); (case a_is_corner => k_is); (case l_is_corner => k_is); (case c_is_corner => k_is); (case k_is_corner => k_is); (case a_shape_fault => k_is); (case l_shape_fault => k_is); (case c_shape_fault => k_is); (case k_shape_fault => k_is); (case a_check_shape => k_is); (case l_check_shape => k_is); (case c_check_shape => k_is); (case k_check_shape => k_is); (case a__half => k_is); (case l__half => k_is); (case c__half => k_is); (case k__half => k_is); (case a_around => k_is); (case l_around => k_is); (case c_around => k_is); (case k_around => k_is); (case a_apart_by => k_is); (case l_apart_by => k_is); (case c_apart_by => k_is); (case k_apart_by => k_is); (case a_apart_corners => k_is); (case l_apart_corners => k_is); (case c_apart_corners => k_is); (case k_apart_corners => k_is); (case a__law_shape => k_is); (case l__law_shape => k_is); (case c__law_shape => k_is); (case k__law_shape => k_is); (case a_divisor => k_is); (case l_divisor => k_is); (case c_divisor => k_is); (case k_divisor => k_is); (case a_sides_by => k_is); (case l_sides_by => k_is); (case c_sides_by => k_is); (case k_sides_by => k_is); (case a_sides_of => k_is); (case l_sides_of => k_is); (case c_sides_of => k_is); (case k_sides_of => k_is); (case a_is_number => k_is); (case l_is_number => k_is); (case c_is_number => k_is); (case k_is_number => k_is); (case a_is_point => k_is); (case l_is_point => k_is); (case c_is_point => k_is); (case k_is_point => k_is); (case a_check_points => k_is); (case l_check_points => k_is); (case c_check_points => k_is); (case k_check_points => k_is); (case a_order => k_is); (case l_order => k_is); (case c_order => k_is); (case k_order => k_is); (case a_made => k_is); (case l_made => k_is); (case c_made => k_is); (case k_made => k_is); (case a_sum_of => k_is); (case l_sum_of => k_is); (case c_sum_of => k_is); (case k_sum_of => k_is); (case a_product => k_is); (case l_product => k_is); (case c_product => k_is); (case k_product => k_is); (case a_dot_by => k_is); (case l_dot_by => k_is); (case c_dot_by => k_is); (case k_dot_by => k_is); (case a_whole_way => k_is); (case l_whole_way => k_is); (case c_whole_way => k_is); (case k_whole_way => k_is); (case a_where_by => k_is); (case l_where_by => k_is); (case c_where_by => k_is); (case k_where_by => k_is); (case a_where => k_is); (case l_where => k_is); (case c_where => k_is); (case k_where => k_is); (case a_twice_area => k_is); (case l_twice_area => k_is); (case c_twice_area => k_is); (case k_twice_area => k_is); (case a_least_first => k_is); (case l_least_first => k_is); (case c_least_first => k_is); (case k_least_first => k_is); (case a_opposite_by => k_is); (case l_opposite_by => k_is); (case c_opposite_by => k_is); (case k_opposite_by => k_is); (case a_opposite => k_is); (case l_opposite => k_is); (case c_opposite => k_is); (case k_opposite => k_is); (case a_apart_sides => k_is); (case l_apart_sides => k_is); (case c_apart_sides => k_is); (case k_apart_sides => k_is); (case a_text_of_shape => k_is); (case l_text_of_shape => k_is); (case c_text_of_shape => k_is); (case k_text_of_shape => k_is); (case a_shape_text => k_is); (case l_shape_text => k_is); (case c_shape_text => k_is); (case k_shape_text => k_is); (case a_integer_of => k_is); (case l_integer_of => k_is); (case c_integer_of => k_is); (case k_integer_of => k_is); (case a_read_shape => k_is); (case l_read_shape => k_is); (case c_read_shape => k_is); (case k_read_shape => k_is); (case a_shape_of => k_is); (case l_shape_of => k_is); (case c_shape_of => k_is); (case k_shape_of => k_is); (case a__law_error => k_is); (case l__law_error => k_is); (case c__law_error => k_is); (case k__law_error => k_is); (case a__law_turn => k_is); (case l__law_turn => k_is); (case c__law_turn => k_is); (case k__law_turn => k_is); (case a__law_fault => k_is); (case l__law_fault => k_is); (case c__law_fault => k_is); (case k__law_fault => k_is); (case a__law_sides => k_is); (case l__law_sides => k_is); (case c__law_sides => k_is); (case k__law_sides => k_is); (case a__law_round => k_is); (case l__law_round => k_is); (case c__law_round => k_is); (case k__law_round => k_is); (case a__law_frac => k_is); (case l__law_frac => k_is); (case c__law_frac => k_is); (case k__law_frac => k_is); (case a__law_where => k_is); (case l__law_where => k_is); (case c__law_where => k_is); (case k__law_where => k_is); (case a_law => k_is); (case l_law => k_is); (case c_law => k_is); (case k_law => k_is)

