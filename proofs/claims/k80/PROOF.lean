import PyProof.Rows.All
import Wide.All
import OpenK.AllK
import Wide.FinOn
import HandS.ForMost
import HandS.ForExc
import HandS.Wide
import HandS.Defaults
import HandS.IsInst
import HandS.Flow
import HandS.Style
import HandS.TupAny
import HandS.TupMul
import HandS.Zip
import HandS.EndBits
import KE.LtData
import PyProof.ReprReads
import PyProof.NoPylong
import HandS.TryOnly
import HandS.SetFor
import PyProof.P3In
import HandS.More
import KE.SortData
import HandS.Conv
import HandS.Iter
import HandS.FStr
import HandS.Text
import PySem.Challenge.RW_stepwarmth_k80_shares_and_worths_written
set_option Elab.async false
set_option linter.all false
set_option maxHeartbeats 1000000
set_option maxHeartbeats 4000000
set_option maxRecDepth 100000
set_option maxRecDepth 1000000
set_option exponentiation.threshold 10000
namespace DL
open PySem PySem.Spec PyProof.Rows L2
abbrev VS := L2.St

abbrev D := PyData
inductive M where
  | lst (ds : List D)
  | dct (kvs : List (Key × D))
inductive Sl where
  | no
  | val (d : D)
  | ow (m : M)
abbrev DS := List Sl
inductive R where
  | d (x : D)
  | s (i : Nat)
inductive Rt where
  | d (x : D)
  | m (m : M)
structure XD where
  cls : Value
  fs : List (Str × D)

def keyD : Key → D
  | .inl i => .int i
  | .inr x => .str x
def kvD (kvs : List (Key × D)) : List (D × D) := kvs.map fun p => (keyD p.1, p.2)
def M.view : M → D
  | .lst ds => .list ds
  | .dct kvs => .dict (kvD kvs)

/-! ### what is steady in a heap -/
def stab (H : Hp) : Hp := fun a => match H a with
  | some (.tup xs) => some (.tup xs)
  | some (.frz o u) => some (.frz o u)
  | _ => none
theorem stab_some {H : Hp} {a : Addr} {o : HO} (h : stab H a = some o) : H a = some o := by
  unfold stab at h
  split at h
  · next xs e => cases h; exact e
  · next o' u e => cases h; exact e
  · cases h
theorem stab_tup {H : Hp} {a : Addr} {xs : List V} (h : H a = some (.tup xs)) : stab H a = some (.tup xs) := by
  unfold stab; rw [h]
theorem stab_frz {H : Hp} {a : Addr} {o : Obj} {u : HO} (h : H a = some (.frz o u)) : stab H a = some (.frz o u) := by
  unfold stab; rw [h]
def Ext (H H' : Hp) : Prop := ∀ a o, stab H a = some o → stab H' a = some o
theorem Ext.refl (H : Hp) : Ext H H := fun _ _ h => h
theorem Ext.trans {H H1 H2 : Hp} (a : Ext H H1) (b : Ext H1 H2) : Ext H H2 := fun c o h => b c o (a c o h)
theorem Ext.new {H : Hp} {p : Addr} {o : HO} (n : H p = none) : Ext H (upd H p o) := fun a u h => by
  have e := stab_some h
  have ne : a ≠ p := ne_of_none e n
  unfold stab
  rw [upd_ne ne]
  exact h
theorem Ext.chg {H : Hp} {p : Addr} {o u : HO} (h : H p = some u) (m : stab H p = none) : Ext H (upd H p o) := fun a w e => by
  have ne : a ≠ p := fun z => by rw [z, m] at e; cases e
  unfold stab
  rw [upd_ne ne]
  exact e
theorem stabL_none {H : Hp} {p : Addr} {xs : List V} (h : H p = some (.lst xs)) : stab H p = none := by unfold stab; rw [h]
theorem stabD_none {H : Hp} {p : Addr} {xs : List (Key × V)} (h : H p = some (.dK xs)) : stab H p = none := by unfold stab; rw [h]

/-! ### data that stand for good -/
mutual
inductive Rp (K : PySem.W.Frag) (H : Hp) : V → D → Prop
  | non : Rp K H .non .none
  | bl (b : Bool) : Rp K H (.bl b) (.bool b)
  | int (i : Int) : Rp K H (.int i) (.int i)
  | str (x : Str) : Rp K H (.str x) (.str x)
  | lst {a : Addr} {xs : List V} {ds : List D} : Rd (stab H) a (.lst xs) → Rps K H xs ds → Rp K H (.ref a) (.list ds)
  | tup {a : Addr} {xs : List V} {ds : List D} : SqT K (stab H) a xs → Rps K H xs ds → Rp K H (.ref a) (.tuple ds)
  | dct {a : Addr} {o : Obj} {ks : List (Key × V)} {ds : List D} : H a = some (.frz o (.dK ks)) → Rps K H (ks.map (·.2)) ds → Rp K H (.ref a) (.dict ((ks.map (fun p => keyD p.1)).zip ds))
inductive Rps (K : PySem.W.Frag) (H : Hp) : List V → List D → Prop
  | nil : Rps K H [] []
  | cons {v : V} {vs : List V} {d : D} {ds : List D} : Rp K H v d → Rps K H vs ds → Rps K H (v :: vs) (d :: ds)
end

section
variable {K : PySem.W.Frag} {H H' : Hp}
theorem rdl_ext {a : Addr} {u : HO} (e : Ext H H') (h : Rd (stab H) a u) : Rd (stab H') a u := by
  rcases h with h | ⟨o, h⟩
  · exact .inl (e _ _ h)
  · exact .inr ⟨o, e _ _ h⟩
theorem SqT.ext {a : Addr} {xs : List V} (e : Ext H H') (h : SqT K (stab H) a xs) : SqT K (stab H') a xs := by
  rcases h with (h | ⟨o, h⟩) | h
  · exact .inl (.inl (e _ _ h))
  · exact .inl (.inr ⟨o, e _ _ h⟩)
  · exact .inr h
theorem rdl_un {a : Addr} {u : HO} (h : Rd (stab H) a u) : Rd H a u := by
  rcases h with h | ⟨o, h⟩
  · exact .inl (stab_some h)
  · exact .inr ⟨o, stab_some h⟩
theorem SqT.un {a : Addr} {xs : List V} (h : SqT K (stab H) a xs) : SqT K H a xs := by
  rcases h with (h | ⟨o, h⟩) | h
  · exact .inl (.inl (stab_some h))
  · exact .inl (.inr ⟨o, stab_some h⟩)
  · exact .inr h
mutual
theorem Rp.ext (e : Ext H H') : ∀ {v : V} {d : D}, Rp K H v d → Rp K H' v d
  | _, _, .non => .non
  | _, _, .bl b => .bl b
  | _, _, .int i => .int i
  | _, _, .str x => .str x
  | _, _, .lst h r => .lst (rdl_ext e h) (Rps.ext e r)
  | _, _, .tup h r => .tup (SqT.ext e h) (Rps.ext e r)
  | _, _, .dct h r => .dct (stab_some (e _ _ (stab_frz h))) (Rps.ext e r)
theorem Rps.ext (e : Ext H H') : ∀ {vs : List V} {ds : List D}, Rps K H vs ds → Rps K H' vs ds
  | _, _, .nil => .nil
  | _, _, .cons a r => .cons (Rp.ext e a) (Rps.ext e r)
end
theorem Rps.length : ∀ {vs : List V} {ds : List D}, Rps K H vs ds → vs.length = ds.length
  | _, _, .nil => rfl
  | _, _, .cons _ r => congrArg (· + 1) (Rps.length r)
theorem Rps.get : ∀ {vs : List V} {ds : List D} {i : Nat} {d : D}, Rps K H vs ds → ds[i]? = some d → ∃ v, vs[i]? = some v ∧ Rp K H v d
  | _, _, _, _, .nil, e => by simp at e
  | _, _, 0, _, .cons a _, e => by simp at e; subst e; exact ⟨_, rfl, a⟩
  | _, _, i + 1, d, .cons _ r, e => by
    obtain ⟨v, h1, h2⟩ := Rps.get (i := i) (d := d) r (by simpa using e)
    exact ⟨v, by simpa using h1, h2⟩
theorem Rps.get' : ∀ {vs : List V} {ds : List D} {i : Nat} {v : V}, Rps K H vs ds → vs[i]? = some v → ∃ d, ds[i]? = some d ∧ Rp K H v d
  | _, _, _, _, .nil, e => by simp at e
  | _, _, 0, _, .cons a _, e => by simp at e; subst e; exact ⟨_, rfl, a⟩
  | _, _, i + 1, d, .cons _ r, e => by
    obtain ⟨v, h1, h2⟩ := Rps.get' (i := i) (v := d) r (by simpa using e)
    exact ⟨v, by simpa using h1, h2⟩
theorem Rps.append : ∀ {vs ws : List V} {ds es : List D}, Rps K H vs ds → Rps K H ws es → Rps K H (vs ++ ws) (ds ++ es)
  | _, _, _, _, .nil, s => s
  | _, _, _, _, .cons a r, s => .cons a (Rps.append r s)
theorem Rps.take : ∀ {vs : List V} {ds : List D} (n : Nat), Rps K H vs ds → Rps K H (vs.take n) (ds.take n)
  | _, _, 0, _ => by simp; exact .nil
  | _, _, n + 1, .nil => .nil
  | _, _, n + 1, .cons a r => .cons a (Rps.take n r)
theorem Rps.drop : ∀ {vs : List V} {ds : List D} (n : Nat), Rps K H vs ds → Rps K H (vs.drop n) (ds.drop n)
  | _, _, 0, r => r
  | _, _, n + 1, .nil => .nil
  | _, _, n + 1, .cons a r => Rps.drop n r
theorem Rps.set : ∀ {vs : List V} {ds : List D} {v : V} {d : D} (n : Nat), Rps K H vs ds → Rp K H v d → Rps K H (vs.set n v) (ds.set n d)
  | _, _, _, _, _, .nil, _ => .nil
  | _, _, _, _, 0, .cons _ r, h => .cons h r
  | _, _, _, _, n + 1, .cons a r, h => .cons a (Rps.set n r h)
end

/-! ### slots -/
def MRep (K : PySem.W.Frag) (H : Hp) (a : Addr) : M → Prop
  | .lst ds => ∃ xs, H a = some (.lst xs) ∧ Rps K H xs ds
  | .dct kvs => ∃ ks : List (Key × V), H a = some (.dK ks) ∧ ks.map (·.1) = kvs.map (·.1) ∧ Rps K H (ks.map (·.2)) (kvs.map (·.2))
theorem MRep.ex {K : PySem.W.Frag} {H : Hp} {a : Addr} {m : M} (h : MRep K H a m) : ∃ o, H a = some o ∧ stab H a = none := by
  cases m with
  | lst ds => obtain ⟨xs, e, _⟩ := h; exact ⟨_, e, stabL_none e⟩
  | dct kvs => obtain ⟨xs, e, _⟩ := h; exact ⟨_, e, stabD_none e⟩
theorem MRep.move {K : PySem.W.Frag} {H H' : Hp} {a : Addr} {m : M} (h : MRep K H a m) (e : Ext H H') (ha : H' a = H a) : MRep K H' a m := by
  cases m with
  | lst ds => obtain ⟨xs, q, r⟩ := h; exact ⟨xs, ha.trans q, r.ext e⟩
  | dct kvs => obtain ⟨xs, q, k, r⟩ := h; exact ⟨xs, ha.trans q, k, r.ext e⟩

structure DC where
  pa : List (Option Addr)

structure Gd (K : PySem.W.Frag) (c : DC) (σ : DS) (σv : VS) (H : Hp) : Prop where
  len : σ.length = σv.length
  val : ∀ (i : Nat) (d : D), σ[i]? = some (.val d) → ∃ v, σv[i]? = some (some v) ∧ Rp K H v d
  ow : ∀ (i : Nat) (m : M), σ[i]? = some (.ow m) → ∃ a, σv[i]? = some (some (.ref a)) ∧ MRep K H a m ∧ ∀ b, c.pa[i]? = some (some b) → a = b
  apart : ∀ (i j : Nat) (m m' : M) (a : Addr), σ[i]? = some (.ow m) → σ[j]? = some (.ow m') → σv[i]? = some (some (.ref a)) → σv[j]? = some (some (.ref a)) → i = j
/-- held by a slot, to be changed -/
def Owd (σ : DS) (σv : VS) (a : Addr) : Prop := ∃ (i : Nat) (m : M), σ[i]? = some (.ow m) ∧ σv[i]? = some (some (.ref a))
/-- from one state to a later one: what is steady stays, what no slot holds stays -/
structure Mv (σ : DS) (σv : VS) (H : Hp) (σ' : DS) (σv' : VS) (H' : Hp) : Prop where
  ext : Ext H H'
  kp : ∀ a o, H a = some o → ¬ Owd σ σv a → H' a = some o ∧ ¬ Owd σ' σv' a
  dom : ∀ a o, H a = some o → ∃ o', H' a = some o'
theorem Mv.refl (σ : DS) (σv : VS) (H : Hp) : Mv σ σv H σ σv H := ⟨Ext.refl H, fun _ _ h n => ⟨h, n⟩, fun _ o h => ⟨o, h⟩⟩
theorem Mv.trans {σ σ1 σ2 : DS} {σv σv1 σv2 : VS} {H H1 H2 : Hp} (a : Mv σ σv H σ1 σv1 H1) (b : Mv σ1 σv1 H1 σ2 σv2 H2) : Mv σ σv H σ2 σv2 H2 :=
  ⟨a.ext.trans b.ext, fun x o h n => let ⟨h1, n1⟩ := a.kp x o h n; b.kp x o h1 n1, fun x o h => let ⟨o1, h1⟩ := a.dom x o h; b.dom x o1 h1⟩

theorem Mv.fresh {σ σ1 : DS} {σv σv1 : VS} {H H1 : Hp} (e : Mv σ σv H σ1 σv1 H1) {a : Addr} (n : H1 a = none) : H a = none := by
  cases q : H a with
  | none => rfl
  | some o =>
    obtain ⟨o', h⟩ := e.dom a o q
    rw [n] at h
    cases h
/-- a result as it stands -/
def RR (K : PySem.W.Frag) (σv : VS) (H : Hp) (v : V) : R → Prop
  | .d x => Rp K H v x
  | .s i => σv[i]? = some (some v)

def ExcRep (K : PySem.W.Frag) (H : Hp) (cls : Value) (d : Option Addr) (x : XD) : Prop :=
  cls = x.cls ∧ match d with
    | none => x.fs = []
    | some a => ∃ vs : List (Str × V), H a = some (.xd vs) ∧ vs.map (·.1) = x.fs.map (·.1) ∧ Rps K H (vs.map (·.2)) (x.fs.map (·.2))

abbrev DK := XD → DS → Prop
abbrev DT := DK → DS → (R → DS → Prop) → Prop
abbrev DB := DK → DS → (Bool → DS → Prop) → Prop
abbrev DV := DK → DS → (D → DS → Prop) → Prop
abbrev DA := DK → DS → (List D → DS → Prop) → Prop
abbrev DM := DK → DS → (M → DS → Prop) → Prop
structure DEnds where
  nx : DS → Prop
  rt : D → DS → Prop
  bk : DS → Prop := fun _ => False
  ct : DS → Prop := fun _ => False
  xn : DK := fun _ _ => False
  rm : M → DS → Prop := fun _ _ => False
  ro : Nat → M → DS → Prop := fun _ _ _ => False
abbrev DTS := DEnds → DS → Prop

/-- the wish of exceptions, from the state at the entry -/
def wv (K : PySem.W.Frag) (c : DC) (σ0 : DS) (σv0 : VS) (H0 : Hp) (W : DK) : WX := fun cls d σv H => ∃ σ x, Gd K c σ σv H ∧ Mv σ0 σv0 H0 σ σv H ∧ ExcRep K H cls d x ∧ W x σ

/-- the entry: from where what is kept is reckoned -/
structure En where
  σ : DS
  σv : VS
  H : Hp
abbrev TK (X : Cx) (c : DC) (n : En) (W : DK) : Prop := Takes X (wv X.K c n.σ n.σv n.H W)
abbrev Up (n : En) (σ : DS) (σv : VS) (H : Hp) : Prop := Mv n.σ n.σv n.H σ σv H

def DE (X : Cx) (c : DC) (e : Expr) (t : DT) : Prop := ∀ n W, TK X c n W → ∃ tv, PE X e tv ∧ ∀ σ σv H Q Qv, Gd X.K c σ σv H → Up n σ σv H → t W σ Q →
  (∀ r σ' v H', Gd X.K c σ' σv H' → Mv σ σv H σ' σv H' → RR X.K σv H' v r → Q r σ' → Qv v H') → tv σv H Qv
def DEv (X : Cx) (c : DC) (e : Expr) (t : DV) : Prop := ∀ n W, TK X c n W → ∃ tv, PE X e tv ∧ ∀ σ σv H Q Qv, Gd X.K c σ σv H → Up n σ σv H → t W σ Q →
  (∀ d σ' v H', Gd X.K c σ' σv H' → Mv σ σv H σ' σv H' → Rp X.K H' v d → Q d σ' → Qv v H') → tv σv H Qv
/-- a new object, held by nothing -/
structure Fresh (K : PySem.W.Frag) (σ : DS) (σv : VS) (H H' : Hp) (a : Addr) (m : M) : Prop where
  rep : MRep K H' a m
  new : H a = none
  out : ¬ Owd σ σv a
def DEm (X : Cx) (c : DC) (e : Expr) (t : DM) : Prop := ∀ n W, TK X c n W → ∃ tv, PE X e tv ∧ ∀ σ σv H Q Qv, Gd X.K c σ σv H → Up n σ σv H → t W σ Q →
  (∀ m σ' a H', Gd X.K c σ' σv H' → Mv σ σv H σ' σv H' → Fresh X.K σ' σv H H' a m → Q m σ' → Qv (.ref a) H') → tv σv H Qv
def DBt (X : Cx) (c : DC) (e : Expr) (t : DB) : Prop := ∀ n W, TK X c n W → ∃ tv, PT X e tv ∧ ∀ σ σv H Q Qv, Gd X.K c σ σv H → Up n σ σv H → t W σ Q →
  (∀ b σ' H', Gd X.K c σ' σv H' → Mv σ σv H σ' σv H' → Q b σ' → Qv b H') → tv σv H Qv
def DAs (X : Cx) (c : DC) (es : List Expr) (t : DA) : Prop := ∀ n W, TK X c n W → ∃ tv, PA X es tv ∧ ∀ σ σv H Q Qv, Gd X.K c σ σv H → Up n σ σv H → t W σ Q →
  (∀ ds σ' vs H', Gd X.K c σ' σv H' → Mv σ σv H σ' σv H' → Rps X.K H' vs ds → Q ds σ' → Qv vs H') → tv σv H Qv
structure ER (K : PySem.W.Frag) (c : DC) (σ0 : DS) (σv0 : VS) (H : Hp) (Dn : DEnds) (Dv : Ends) : Prop where
  nx : ∀ σ σv H', Gd K c σ σv H' → Mv σ0 σv0 H σ σv H' → Dn.nx σ → Dv.nx σv H'
  rt : ∀ d σ σv v H', Gd K c σ σv H' → Mv σ0 σv0 H σ σv H' → Rp K H' v d → Dn.rt d σ → Dv.rt v H'
  bk : ∀ σ σv H', Gd K c σ σv H' → Mv σ0 σv0 H σ σv H' → Dn.bk σ → Dv.bk σv H'
  ct : ∀ σ σv H', Gd K c σ σv H' → Mv σ0 σv0 H σ σv H' → Dn.ct σ → Dv.ct σv H'
  rm : ∀ m a σ σv H', Gd K c σ σv H' → Mv σ0 σv0 H σ σv H' → MRep K H' a m → H a = none → Dn.rm m σ → Dv.rt (.ref a) H'
  ro : ∀ i m a σ σv H', Gd K c σ σv H' → Mv σ0 σv0 H σ σv H' → σ[i]? = some (.ow m) → σv[i]? = some (some (.ref a)) → Dn.ro i m σ → Dv.rt (.ref a) H'
theorem ER.ext {K : PySem.W.Frag} {c : DC} {σ σ1 : DS} {σv σv1 : VS} {H H1 : Hp} {Dn : DEnds} {Dv : Ends} (h : ER K c σ σv H Dn Dv) (e : Mv σ σv H σ1 σv1 H1) : ER K c σ1 σv1 H1 Dn Dv :=
  ⟨fun _ _ _ g x => h.nx _ _ _ g (e.trans x), fun _ _ _ _ _ g x => h.rt _ _ _ _ _ g (e.trans x), fun _ _ _ g x => h.bk _ _ _ g (e.trans x), fun _ _ _ g x => h.ct _ _ _ g (e.trans x),
   fun _ _ _ _ _ g x r n => h.rm _ _ _ _ _ g (e.trans x) r (e.fresh n), fun _ _ _ _ _ _ g x => h.ro _ _ _ _ _ _ g (e.trans x)⟩
def DSt (X : Cx) (c : DC) (st : Stmt) (t : DTS) : Prop := ∀ n W, TK X c n W → ∃ tv, PS X st tv ∧ ∀ Dn σ σv H Dv, Dn.xn = W → Gd X.K c σ σv H → Up n σ σv H → t Dn σ → ER X.K c σ σv H Dn Dv → tv Dv σv H
def DSs (X : Cx) (c : DC) (st : List Stmt) (t : DTS) : Prop := ∀ n W, TK X c n W → ∃ tv, PSs X st tv ∧ ∀ Dn σ σv H Dv, Dn.xn = W → Gd X.K c σ σv H → Up n σ σv H → t Dn σ → ER X.K c σ σv H Dn Dv → tv Dv σv H
end DL
namespace DL
open PySem PySem.Spec PyProof.Rows L2

def view (σ : DS) : R → Option D
  | .d x => some x
  | .s i => match σ[i]? with
    | some (.val d) => some d
    | some (.ow m) => some m.view
    | _ => none
/-- a datum as it stands now: for good, or an object that may still change -/
def VR (K : PySem.W.Frag) (H : Hp) (v : V) (d : D) : Prop := Rp K H v d ∨ ∃ a m, v = .ref a ∧ MRep K H a m ∧ d = m.view
section
variable {K : PySem.W.Frag} {c : DC} {σ : DS} {σv : VS} {H H' : Hp} {v : V} {r : R} {d : D}

theorem Gd.view (g : Gd K c σ σv H) (q : RR K σv H v r) (e : view σ r = some d) : VR K H v d := by
  cases r with
  | d x => cases e; exact .inl q
  | s i =>
    have q : σv[i]? = some (some v) := q
    cases q2 : σ[i]? with
    | none => simp [DL.view, q2] at e
    | some z =>
      cases z with
      | no => simp [DL.view, q2] at e
      | val d' =>
        simp [DL.view, q2] at e
        subst e
        obtain ⟨u, h1, h2⟩ := g.val i _ q2
        rw [q] at h1; cases h1
        exact .inl h2
      | ow m =>
        simp [DL.view, q2] at e
        obtain ⟨a, h1, h2, _⟩ := g.ow i _ q2
        rw [q] at h1; cases h1
        exact .inr ⟨a, m, rfl, h2, e.symm⟩
theorem VR.none (h : VR K H v .none) : v = .non := by
  rcases h with h | ⟨a, m, _, _, e⟩
  · cases h; rfl
  · cases m <;> cases e
theorem VR.bool {b : Bool} (h : VR K H v (.bool b)) : v = .bl b := by
  rcases h with h | ⟨a, m, _, _, e⟩
  · cases h; rfl
  · cases m <;> cases e
theorem VR.int {i : Int} (h : VR K H v (.int i)) : v = .int i := by
  rcases h with h | ⟨a, m, _, _, e⟩
  · cases h; rfl
  · cases m <;> cases e
theorem VR.str {x : Str} (h : VR K H v (.str x)) : v = .str x := by
  rcases h with h | ⟨a, m, _, _, e⟩
  · cases h; rfl
  · cases m <;> cases e
theorem VR.tup {ds : List D} (h : VR K H v (.tuple ds)) : ∃ a xs, v = .ref a ∧ SqT K H a xs ∧ SqT K (stab H) a xs ∧ Rps K H xs ds := by
  rcases h with h | ⟨a, m, _, _, e⟩
  · cases h with
    | tup h1 h2 => exact ⟨_, _, rfl, SqT.un h1, h1, h2⟩
  · cases m <;> cases e
theorem VR.lst {ds : List D} (h : VR K H v (.list ds)) : ∃ a xs, v = .ref a ∧ Rd H a (.lst xs) ∧ Rps K H xs ds := by
  rcases h with h | ⟨a, m, rfl, hm, e⟩
  · cases h with
    | lst h1 h2 => exact ⟨_, _, rfl, rdl_un h1, h2⟩
  · cases m with
    | lst es =>
      cases e
      obtain ⟨xs, h1, h2⟩ := hm
      exact ⟨a, xs, rfl, .inl h1, h2⟩
    | dct _ => cases e

theorem Gd.same (g : Gd K c σ σv H) (k : Same H H') : Gd K c σ σv H' := by
  have e : Ext H H' := fun a o h => by
    have h1 := stab_some h
    have h2 := k a o h1
    unfold stab at h ⊢
    rw [h1] at h
    rw [h2]
    exact h
  refine ⟨g.len, fun i d h => ?_, fun i m h => ?_, g.apart⟩
  · obtain ⟨v, h1, h2⟩ := g.val i d h
    exact ⟨v, h1, h2.ext e⟩
  · obtain ⟨a, h1, h2, h3⟩ := g.ow i m h
    obtain ⟨o, h4, _⟩ := h2.ex
    exact ⟨a, h1, h2.move e ((k a o h4).trans h4.symm), h3⟩
theorem Ext.same (k : Same H H') : Ext H H' := fun a o h => by
  have h1 := stab_some h
  have h2 := k a o h1
  unfold stab at h ⊢
  rw [h1] at h
  rw [h2]
  exact h
theorem Same.new {p : Addr} {o : HO} (n : H p = none) : Same H (upd H p o) := fun b u e => by rw [upd_ne (ne_of_none e n)]; exact e
theorem RR.ext (e : Ext H H') (q : RR K σv H v r) : RR K σv H' v r := by
  cases r with
  | d x => exact Rp.ext e q
  | s i => exact q

theorem Gd.setVal {i : Nat} (g : Gd K c σ σv H) (h : Rp K H v d) : Gd K c (σ.set i (.val d)) (σv.set i (some v)) H := by
  refine ⟨by rw [List.length_set, List.length_set, g.len], fun j e h1 => ?_, fun j m h1 => ?_, fun j k m m' a h1 h2 h3 h4 => ?_⟩
  · by_cases hj : i = j
    · subst hj
      have hl : i < σ.length := by have := (List.getElem?_eq_some_iff.mp h1).1; rw [List.length_set] at this; exact this
      rw [List.getElem?_set_self hl] at h1
      cases h1
      exact ⟨v, List.getElem?_set_self (by rw [← g.len]; exact hl), h⟩
    · rw [List.getElem?_set_ne hj] at h1
      rw [List.getElem?_set_ne hj]
      exact g.val j e h1
  · by_cases hj : i = j
    · subst hj
      have hl : i < σ.length := by have := (List.getElem?_eq_some_iff.mp h1).1; rw [List.length_set] at this; exact this
      rw [List.getElem?_set_self hl] at h1
      cases h1
    · rw [List.getElem?_set_ne hj] at h1
      rw [List.getElem?_set_ne hj]
      exact g.ow j m h1
  · have ne : ∀ {l : Nat} {m : M}, (σ.set i (.val d))[l]? = some (.ow m) → i ≠ l := fun {l m} q z => by
      subst z
      have hl : i < σ.length := by have := (List.getElem?_eq_some_iff.mp q).1; rw [List.length_set] at this; exact this
      rw [List.getElem?_set_self hl] at q
      cases q
    have n1 := ne h1
    have n2 := ne h2
    rw [List.getElem?_set_ne n1] at h1 h3
    rw [List.getElem?_set_ne n2] at h2 h4
    exact g.apart j k m m' a h1 h2 h3 h4
theorem Gd.setOw {i : Nat} {a : Addr} {m : M} (g : Gd K c σ σv H) (fr : MRep K H a m) (fo : ¬ Owd σ σv a) (hp : ∀ b, c.pa[i]? ≠ some (some b)) : Gd K c (σ.set i (.ow m)) (σv.set i (some (.ref a))) H := by
  have at_i : ∀ {l : Nat} {z : Sl}, (σ.set i (.ow m))[l]? = some z → i = l → z = .ow m ∧ i < σ.length := fun {l z} q e => by
    subst e
    have hl : i < σ.length := by have := (List.getElem?_eq_some_iff.mp q).1; rw [List.length_set] at this; exact this
    rw [List.getElem?_set_self hl] at q
    cases q
    exact ⟨rfl, hl⟩
  refine ⟨by rw [List.length_set, List.length_set, g.len], fun j e h1 => ?_, fun j m' h1 => ?_, fun j k m1 m2 b h1 h2 h3 h4 => ?_⟩
  · by_cases hj : i = j
    · cases (at_i h1 hj).1
    · rw [List.getElem?_set_ne hj] at h1
      rw [List.getElem?_set_ne hj]
      exact g.val j e h1
  · by_cases hj : i = j
    · obtain ⟨e, hl⟩ := at_i h1 hj
      cases e
      subst hj
      exact ⟨a, List.getElem?_set_self (by rw [← g.len]; exact hl), fr, fun b hb => absurd hb (hp b)⟩
    · rw [List.getElem?_set_ne hj] at h1
      rw [List.getElem?_set_ne hj]
      exact g.ow j m' h1
  · by_cases hj : i = j
    · by_cases hk : i = k
      · omega
      · obtain ⟨e, hl⟩ := at_i h1 hj
        subst hj
        rw [List.getElem?_set_self (by rw [← g.len]; exact hl)] at h3
        cases h3
        rw [List.getElem?_set_ne hk] at h2 h4
        exact absurd ⟨k, m2, h2, h4⟩ fo
    · rw [List.getElem?_set_ne hj] at h1 h3
      by_cases hk : i = k
      · obtain ⟨e, hl⟩ := at_i h2 hk
        subst hk
        rw [List.getElem?_set_self (by rw [← g.len]; exact hl)] at h4
        cases h4
        exact absurd ⟨j, m1, h1, h3⟩ fo
      · rw [List.getElem?_set_ne hk] at h2 h4
        exact g.apart j k m1 m2 b h1 h2 h3 h4
/-- the object in slot i is written -/
theorem Gd.write {i : Nat} {a : Addr} {m m' : M} {o : HO} (g : Gd K c σ σv H) (h : σ[i]? = some (.ow m)) (ha : σv[i]? = some (some (.ref a))) (hm : MRep K (upd H a o) a m') (e : Ext H (upd H a o)) :
    Gd K c (σ.set i (.ow m')) σv (upd H a o) := by
  obtain ⟨b, hb, hr, hp⟩ := g.ow i m h
  rw [ha] at hb
  cases hb
  have hl : i < σ.length := (List.getElem?_eq_some_iff.mp h).1
  refine ⟨by rw [List.length_set, g.len], fun j d h1 => ?_, fun j m1 h1 => ?_, fun j k m1 m2 b h1 h2 h3 h4 => ?_⟩
  · by_cases hj : i = j
    · subst hj; rw [List.getElem?_set_self hl] at h1; cases h1
    · rw [List.getElem?_set_ne hj] at h1
      obtain ⟨v, q1, q2⟩ := g.val j d h1
      exact ⟨v, q1, q2.ext e⟩
  · by_cases hj : i = j
    · subst hj; rw [List.getElem?_set_self hl] at h1; cases h1
      exact ⟨a, ha, hm, hp⟩
    · rw [List.getElem?_set_ne hj] at h1
      obtain ⟨b, q1, q2, q3⟩ := g.ow j m1 h1
      have nb : b ≠ a := fun z => by subst z; exact hj (g.apart i j m m1 b h h1 ha q1)
      exact ⟨b, q1, q2.move e (upd_ne nb), q3⟩
  · have old : ∀ {l : Nat} {m1 : M}, (σ.set i (.ow m'))[l]? = some (.ow m1) → ∃ m2, σ[l]? = some (.ow m2) := fun {l m1} q => by
      by_cases hj : i = l
      · subst hj; exact ⟨m, h⟩
      · rw [List.getElem?_set_ne hj] at q; exact ⟨m1, q⟩
    obtain ⟨n1, q1⟩ := old h1
    obtain ⟨n2, q2⟩ := old h2
    exact g.apart j k n1 n2 b q1 q2 h3 h4

/-- the object at a is locked -/
def Lk (u : HO) : Prop := (∃ xs, u = .lst xs) ∨ ∃ ks, u = .dK ks
theorem MRep.lock {a : Addr} {m : M} (h : MRep K H a m) : ∃ u, H a = some u ∧ Lk u ∧ ∀ o : Obj, Ext H (upd H a (.frz o u)) ∧ Rp K (upd H a (.frz o u)) (.ref a) m.view := by
  cases m with
  | lst ds =>
    obtain ⟨xs, h1, h2⟩ := h
    refine ⟨_, h1, .inl ⟨xs, rfl⟩, fun o => ?_⟩
    have e : Ext H (upd H a (.frz o (.lst xs))) := Ext.chg h1 (stabL_none h1)
    exact ⟨e, .lst (.inr ⟨o, stab_frz upd_same⟩) (h2.ext e)⟩
  | dct kvs =>
    obtain ⟨ks, h1, h2, h3⟩ := h
    refine ⟨_, h1, .inr ⟨ks, rfl⟩, fun o => ?_⟩
    have e : Ext H (upd H a (.frz o (.dK ks))) := Ext.chg h1 (stabD_none h1)
    refine ⟨e, ?_⟩
    have r := Rp.dct (K := K) (H := upd H a (.frz o (.dK ks))) (a := a) (o := o) upd_same (h3.ext e)
    have q : (ks.map (fun p => keyD p.1)).zip (kvs.map (·.2)) = kvD kvs := by
      have : ks.map (fun p => keyD p.1) = (ks.map (·.1)).map keyD := by rw [List.map_map]; rfl
      rw [this, h2, List.map_map, List.zip_map']
      rfl
    rw [q] at r
    exact r
theorem Gd.lock {i : Nat} {a : Addr} {m : M} {u : HO} {o : Obj} (g : Gd K c σ σv H) (h : σ[i]? = some (.ow m)) (ha : σv[i]? = some (some (.ref a))) (hu : H a = some u) (e : Ext H (upd H a (.frz o u))) (hr : Rp K (upd H a (.frz o u)) (.ref a) m.view) :
    Gd K c (σ.set i (.val m.view)) σv (upd H a (.frz o u)) := by
  obtain ⟨b, hb, hr', hp⟩ := g.ow i m h
  rw [ha] at hb
  cases hb
  have hl : i < σ.length := (List.getElem?_eq_some_iff.mp h).1
  have old : ∀ {l : Nat} {m1 : M}, (σ.set i (.val m.view))[l]? = some (.ow m1) → i ≠ l ∧ σ[l]? = some (.ow m1) := fun {l m1} q => by
    by_cases hj : i = l
    · subst hj; rw [List.getElem?_set_self hl] at q; cases q
    · rw [List.getElem?_set_ne hj] at q; exact ⟨hj, q⟩
  refine ⟨by rw [List.length_set, g.len], fun j d h1 => ?_, fun j m1 h1 => ?_, fun j k m1 m2 b h1 h2 h3 h4 => ?_⟩
  · by_cases hj : i = j
    · subst hj; rw [List.getElem?_set_self hl] at h1; cases h1; exact ⟨_, ha, hr⟩
    · rw [List.getElem?_set_ne hj] at h1
      obtain ⟨v, q1, q2⟩ := g.val j d h1
      exact ⟨v, q1, q2.ext e⟩
  · obtain ⟨hj, h1⟩ := old h1
    obtain ⟨b, q1, q2, q3⟩ := g.ow j m1 h1
    have nb : b ≠ a := fun z => by subst z; exact hj (g.apart i j m m1 b h h1 ha q1)
    exact ⟨b, q1, q2.move e (upd_ne nb), q3⟩
  · exact g.apart j k m1 m2 b (old h1).2 (old h2).2 h3 h4

/-- an object that no slot holds is changed -/
theorem Gd.other {a : Addr} {o : HO} (g : Gd K c σ σv H) (n : ¬ Owd σ σv a) (e : Ext H (upd H a o)) : Gd K c σ σv (upd H a o) := by
  refine ⟨g.len, fun j d h1 => ?_, fun j m1 h1 => ?_, g.apart⟩
  · obtain ⟨v, q1, q2⟩ := g.val j d h1
    exact ⟨v, q1, q2.ext e⟩
  · obtain ⟨b, q1, q2, q3⟩ := g.ow j m1 h1
    have nb : b ≠ a := fun z => by subst z; exact n ⟨j, m1, h1, q1⟩
    exact ⟨b, q1, q2.move e (upd_ne nb), q3⟩
theorem Gd.not_own {a : Addr} (g : Gd K c σ σv H) (n : H a = none) : ¬ Owd σ σv a := fun ⟨i, m, h1, h2⟩ => by
  obtain ⟨b, h3, h4, _⟩ := g.ow i m h1
  rw [h2] at h3
  cases h3
  obtain ⟨o, h5, _⟩ := h4.ex
  rw [n] at h5; cases h5
theorem Mv.same (k : Same H H') : Mv σ σv H σ σv H' := ⟨Ext.same k, fun a o h n => ⟨k a o h, n⟩, fun a o h => ⟨o, k a o h⟩⟩
/-- nothing is held more than was -/
theorem Mv.upd {a : Addr} {o : HO} {σ' : DS} (e : Ext H (upd H a o)) (ha : H a = none ∨ Owd σ σv a) (hs : ∀ b, Owd σ' σv b → Owd σ σv b) : Mv σ σv H σ' σv (upd H a o) :=
  ⟨e, fun b u h n => by
    have nb : b ≠ a := fun z => by
      subst z
      rcases ha with q | q
      · rw [q] at h; cases h
      · exact n q
    exact ⟨by rw [upd_ne nb]; exact h, fun z => n (hs b z)⟩, fun b u h => by
    by_cases z : b = a
    · subst z; exact ⟨o, upd_same⟩
    · exact ⟨u, by rw [upd_ne z]; exact h⟩⟩
theorem owd_set {i : Nat} {z : Sl} {b : Addr} (hz : ∀ m, z = .ow m → ∃ m', σ[i]? = some (.ow m')) (h : Owd (σ.set i z) σv b) : Owd σ σv b := by
  obtain ⟨j, m, h1, h2⟩ := h
  by_cases hj : i = j
  · subst hj
    have hl : i < σ.length := by have := (List.getElem?_eq_some_iff.mp h1).1; rw [List.length_set] at this; exact this
    rw [List.getElem?_set_self hl] at h1
    obtain ⟨m', e⟩ := hz m (Option.some.inj h1)
    exact ⟨i, m', e, h2⟩
  · rw [List.getElem?_set_ne hj] at h1
    exact ⟨j, m, h1, h2⟩
end

/-! ### locking, as a rule -/
section
variable {X : Cx} {pins : List (Addr × Obj)} {σ : VS} {H : Hp} {s : Shared}
theorem inv_lock {a : Addr} {u : HO} (I : Inv X pins σ H s) (hu : H a = some u) (hl : Lk u) : ∃ o, Inv X pins σ (upd H a (.frz o u)) s := by
  obtain ⟨o, ho⟩ : ∃ o, s.heap.get? a = some o := by
    have x := I.hok a u hu
    rcases hl with ⟨xs, rfl⟩ | ⟨ks, rfl⟩
    · obtain ⟨_, its, n, _, e⟩ := x
      exact ⟨_, e⟩
    · obtain ⟨_, _, vs, _, o, _, _, e, _⟩ := x
      exact ⟨o, e⟩
  refine ⟨o, ?_⟩
  have nt : ∀ b w, H b = some w → ¬ Lk w → b ≠ a := fun b w q n z => by subst z; rw [hu] at q; cases q; exact n hl
  have ow : ∀ b y, H b = some (.own y) → upd H a (.frz o u) b = some (.own y) := fun b y q => by
    rw [upd_ne (nt b _ q fun z => by rcases z with ⟨_, z⟩ | ⟨_, z⟩ <;> cases z)]; exact q
  have tp : ∀ b xs, H b = some (.tup xs) → upd H a (.frz o u) b = some (.tup xs) := fun b y q => by
    rw [upd_ne (nt b _ q fun z => by rcases z with ⟨_, z⟩ | ⟨_, z⟩ <;> cases z)]; exact q
  have noneK : ∀ b, H b = none → upd H a (.frz o u) b = none := fun b q => by
    rw [upd_ne (fun z => by subst z; rw [hu] at q; cases q)]; exact q
  refine ⟨I.ok, I.os, I.bare, ⟨I.base.keep, I.base.slot, fun b w h1 h2 h3 => noneK b (I.base.free b w h1 h2 h3), I.base.there, fun b xs q => tp b xs (I.base.tups b xs q), fun b w xs q => ?_, fun b ps q => ?_⟩, I.loc, I.cell, noneK _ I.free, fun x c' e => noneK _ (I.freeC x c' e),
    fun p hp => ?_, fun b w q => ?_, I.len⟩
  · have q2 := I.base.frzs b w xs q
    rw [upd_ne (nt b _ q2 fun z => by rcases z with ⟨_, z⟩ | ⟨_, z⟩ <;> cases z)]; exact q2
  · obtain ⟨more, q2⟩ := I.base.tbls b ps q
    exact ⟨more, by rw [upd_ne (nt b _ q2 fun z => by rcases z with ⟨_, z⟩ | ⟨_, z⟩ <;> cases z)]; exact q2⟩
  · obtain ⟨e, n, r⟩ := I.pin p hp
    exact ⟨e, noneK _ n, r⟩
  · by_cases hb : b = a
    · subst hb
      rw [upd_same] at q
      cases q
      refine ⟨ho, ?_⟩
      have x := I.hok b u hu
      rcases hl with ⟨xs, rfl⟩ | ⟨ks, rfl⟩
      · exact x
      · exact x
    · rw [upd_ne hb] at q
      exact (I.hok b w q).stay (fun _ _ _ e => e) (fun x => ow x _) fun x xs => tp x xs
/-- behind an expression an object may be locked -/
def tLk (t : TE) : TE := fun σ H Q => t σ H fun v H1 => Q v H1 ∨ ∃ a u, H1 a = some u ∧ Lk u ∧ ∀ o, Q v (upd H1 a (.frz o u))
theorem pe_lk {e : Expr} {t : TE} (h : PE X e t) : PE X e (tLk t) := ⟨fun pins s σ H Q I q => thn (h.run pins s σ H _ I q) fun u s' ⟨v, H', I', r, q'⟩ => by
  rcases q' with q' | ⟨a, w, h1, h2, q'⟩
  · exact ⟨v, H', I', r, q'⟩
  · obtain ⟨o, J⟩ := inv_lock I' h1 h2
    exact ⟨v, _, J, r, q' o⟩⟩
end

/-! ### from one judgement to the other -/
section
variable {X : Cx} {c : DC} {e : Expr}
def tkD (σ : DS) : R → (D → DS → Prop) → Prop
  | .d x, Q => Q x σ
  | .s i, Q => match σ[i]? with
    | some (.val d) => Q d σ
    | some (.ow m) => Q m.view (σ.set i (.val m.view))
    | _ => False
def dTake (t : DT) : DV := fun W σ Q => t W σ fun r σ' => tkD σ' r Q
theorem dev_take {t : DT} (h : DE X c e t) : DEv X c e (dTake t) := fun n W tk => by
  obtain ⟨tv, pe, hr⟩ := h n W tk
  refine ⟨tLk tv, pe_lk pe, fun σ σv H Q Qv g up q k => ?_⟩
  refine hr σ σv H _ _ g up q fun r σ' v H' g' x rr e2 => ?_
  cases r with
  | d y => exact .inl (k _ _ v H' g' x rr e2)
  | s i =>
    have rr : σv[i]? = some (some v) := rr
    cases q2 : σ'[i]? with
    | none => simp [tkD, q2] at e2
    | some z =>
      cases z with
      | no => simp [tkD, q2] at e2
      | val d =>
        simp only [tkD, q2] at e2
        obtain ⟨u, h2, h3⟩ := g'.val i _ q2
        rw [rr] at h2; cases h2
        exact .inl (k _ _ v H' g' x h3 e2)
      | ow m =>
        simp only [tkD, q2] at e2
        obtain ⟨a, h2, h3, _⟩ := g'.ow i _ q2
        rw [rr] at h2; cases h2
        obtain ⟨u, h4, h5, h6⟩ := h3.lock
        refine .inr ⟨a, u, h4, h5, fun o => ?_⟩
        exact k _ _ _ _ (g'.lock q2 rr h4 (h6 o).1 (h6 o).2) (x.trans (.upd (h6 o).1 (.inr ⟨i, m, q2, rr⟩) fun b => owd_set fun _ z => by cases z)) (h6 o).2 e2
def dVal (t : DV) : DT := fun W σ Q => t W σ fun d σ' => Q (.d d) σ'
theorem de_val {t : DV} (h : DEv X c e t) : DE X c e (dVal t) := fun n W tk => by
  obtain ⟨tv, pe, hr⟩ := h n W tk
  exact ⟨tv, pe, fun σ σv H Q Qv g up q k => hr σ σv H _ _ g up q fun d σ' v H' g' x r q' => k (.d d) σ' v H' g' x r q'⟩
/-- a new object that nobody holds is locked -/
theorem lock_new {σ σ' : DS} {σv : VS} {H H' : Hp} {a : Addr} {m : M} (g : Gd X.K c σ' σv H') (x : Mv σ σv H σ' σv H') (f : Fresh X.K σ' σv H H' a m) : ∃ u, H' a = some u ∧ Lk u ∧ ∀ o, Gd X.K c σ' σv (upd H' a (.frz o u)) ∧ Mv σ σv H σ' σv (upd H' a (.frz o u)) ∧ Rp X.K (upd H' a (.frz o u)) (.ref a) m.view := by
  obtain ⟨u, h4, h5, h6⟩ := f.rep.lock
  refine ⟨u, h4, h5, fun o => ⟨g.other f.out (h6 o).1, ⟨x.ext.trans (h6 o).1, fun b w h n => ?_, fun b w h => ?_⟩, (h6 o).2⟩⟩
  · obtain ⟨h7, h8⟩ := x.kp b w h n
    have nb : b ≠ a := fun z => by subst z; rw [f.new] at h; cases h
    exact ⟨by rw [upd_ne nb]; exact h7, h8⟩
  · by_cases z : b = a
    · subst z; exact ⟨_, upd_same⟩
    · rw [upd_ne z]; exact x.dom b w h
def dLock (t : DM) : DV := fun W σ Q => t W σ fun m σ' => Q m.view σ'
theorem dev_lock {t : DM} (h : DEm X c e t) : DEv X c e (dLock t) := fun n W tk => by
  obtain ⟨tv, pe, hr⟩ := h n W tk
  refine ⟨tLk tv, pe_lk pe, fun σ σv H Q Qv g up q k => ?_⟩
  refine hr σ σv H _ _ g up q fun m σ' a H' g' x f q' => ?_
  obtain ⟨u, h4, h5, h6⟩ := lock_new g' x f
  exact .inr ⟨a, u, h4, h5, fun o => k _ _ _ _ (h6 o).1 (h6 o).2.1 (h6 o).2.2 q'⟩
/-- a new object is held by nothing -/
theorem Fresh.mk' {K : PySem.W.Frag} {σ σ1 : DS} {σv : VS} {H H1 H2 : Hp} {a : Addr} {m : M} (g : Gd K c σ1 σv H1) (x : Mv σ σv H σ1 σv H1) (n : H1 a = none) (r : MRep K H2 a m) : Fresh K σ1 σv H H2 a m :=
by
  refine ⟨r, ?_, g.not_own n⟩
  cases e : H a with
  | none => rfl
  | some o =>
    obtain ⟨o', h⟩ := x.dom a o e
    rw [n] at h
    cases h
end
end DL
namespace DL
open PySem PySem.Spec PyProof.Rows L2

/-! ### names, constants -/
section
variable {X : Cx} {c : DC}
def dName (i : Nat) : DT := fun _ σ Q => match σ[i]? with
  | some (.val d) => Q (.d d) σ
  | some (.ow _) => Q (.s i) σ
  | _ => False
theorem de_name (i : Nat) {x : Str} {pos : Pos} (hN : X.N[i]? = some x := by rfl) (hv : Vis X.env.scope x := by first | exact Or.inl rfl | exact Or.inr (Or.inl rfl) | exact Or.inr (Or.inr rfl)) (hd : (x == ("__debug__" : Str)) = false := by decide +kernel)
    (hcd : (x == ("__classdict__" : Str)) = false := by decide +kernel) : DE X c (.Name x pos) (dName i) := fun n W tk => by
  refine ⟨_, pe_var (i := i) hN hv hd hcd, fun σ σv H Q Qv g up q k => ?_⟩
  unfold dName at q
  cases e : σ[i]? with
  | none => rw [e] at q; exact q.elim
  | some z =>
    rw [e] at q
    cases z with
    | no => exact q.elim
    | val d =>
      obtain ⟨v, h1, h2⟩ := g.val i d e
      exact ⟨v, h1, k (.d d) _ _ _ g (Mv.refl σ σv H) h2 q⟩
    | ow m =>
      obtain ⟨a, h1, _⟩ := g.ow i m e
      exact ⟨_, h1, k (.s i) _ _ _ g (Mv.refl σ σv H) h1 q⟩
def dC (d : D) : DV := fun _ σ Q => Q d σ
theorem dev_c {e : Expr} {v : V} {d : D} (h : PE X e (tC v)) (r : ∀ H, Rp X.K H v d) : DEv X c e (dC d) := fun n W tk =>
  ⟨_, h, fun σ σv H Q Qv g up q k => k _ _ _ _ g (Mv.refl σ σv H) (r H) q⟩
theorem dev_int {i : Int} {j pos} : DEv X c (.Constant (.int i) j pos) (dC (.int i)) := dev_c pe_int fun _ => .int i
theorem dev_bl {b : Bool} {j pos} : DEv X c (.Constant (.bool b) j pos) (dC (.bool b)) := dev_c pe_bl fun _ => .bl b
theorem dev_non {j pos} : DEv X c (.Constant .none j pos) (dC .none) := dev_c pe_non fun _ => .non
theorem dev_str {x : Str} {j pos} : DEv X c (.Constant (.str x) j pos) (dC (.str x)) := dev_c pe_str fun _ => .str x
/-- a name of the module that holds a written tuple -/
theorem dev_glob {x : Str} {v : V} {u : Value} {d : D} {pos : Pos} (hg : Gl X x) (hm : X.mg x = some u) (r : RelV v u) (q : ∀ H, Rp X.K H v d) (hd : (x == ("__debug__" : Str)) = false := by decide +kernel) : DEv X c (.Name x pos) (dC d) :=
  dev_c (pe_glob hg hm r hd) q
end

/-! ### written items -/
section
variable {X : Cx} {c : DC} {e : Expr} {es : List Expr}
def daNil : DA := fun _ σ Q => Q [] σ
def daCons (t : DV) (u : DA) : DA := fun W σ Q => t W σ fun d σ1 => u W σ1 fun ds σ2 => Q (d :: ds) σ2
theorem da_nil : DAs X c [] daNil := fun n W tk => ⟨_, pa_nil, fun σ σv H Q Qv g up q k => k _ _ _ _ g (Mv.refl σ σv H) .nil q⟩
theorem da_cons {t : DV} {u : DA} (h : DEv X c e t) (hs : DAs X c es u) (hst : starEach (e :: es) X.env = (false, eval e X.env) :: starEach es X.env := by rfl) : DAs X c (e :: es) (daCons t u) := fun n W tk => by
  obtain ⟨tv, pe, hr⟩ := h n W tk
  obtain ⟨uv, pa, hr2⟩ := hs n W tk
  refine ⟨_, pa_cons pe pa hst, fun σ σv H Q Qv g up q k => ?_⟩
  refine hr σ σv H _ _ g up q fun d σ1 v H1 g1 x1 r1 q1 => ?_
  exact hr2 σ1 σv H1 _ _ g1 (up.trans x1) q1 fun ds σ2 vs H2 g2 x2 r2 q2 => k _ _ _ _ g2 (x1.trans x2) (.cons (r1.ext x2.ext) r2) q2
def dTup (t : DA) : DV := fun W σ Q => t W σ fun ds σ1 => ds.length ≤ sizeLine ∧ Q (.tuple ds) σ1
theorem dev_tup {t : DA} {x1 pos} (h : DAs X c es t) : DEv X c (.Tuple es x1 pos) (dTup t) := fun n W tk => by
  obtain ⟨tv, pa, hr⟩ := h n W tk
  refine ⟨_, pe_tup pa, fun σ σv H Q Qv g up q k => ?_⟩
  refine hr σ σv H _ _ g up q fun ds σ1 vs H1 g1 x1 r1 q1 => ⟨by rw [r1.length]; exact q1.1, fun p hp => ?_⟩
  have sm := Same.new (o := .tup vs) hp
  exact k _ _ _ _ (g1.same sm) (x1.trans (Mv.same sm)) (.tup (.inl (.inl (stab_tup upd_same))) (r1.ext (Ext.new hp))) q1.2
def dLst (t : DA) : DM := fun W σ Q => t W σ fun ds σ1 => ds.length ≤ sizeLine ∧ Q (.lst ds) σ1
theorem dem_lst {t : DA} {pos} (h : DAs X c es t) : DEm X c (.List es pos) (dLst t) := fun n W tk => by
  obtain ⟨tv, pa, hr⟩ := h n W tk
  refine ⟨_, pe_lst pa, fun σ σv H Q Qv g up q k => ?_⟩
  refine hr σ σv H _ _ g up q fun ds σ1 vs H1 g1 x1 r1 q1 => ⟨by rw [r1.length]; exact q1.1, fun p hp => ?_⟩
  have sm := Same.new (o := .lst vs) hp
  exact k _ _ _ _ (g1.same sm) (x1.trans (Mv.same sm)) (Fresh.mk' (m := .lst ds) g1 x1 hp ⟨vs, upd_same, r1.ext (Ext.new hp)⟩) q1.2
end

/-! ### operations by values -/
/-- what an operation gives: all stands; a datum for good, or a new object -/
def OutD (K : PySem.W.Frag) (H : Hp) (v : V) (H' : Hp) (d : D) : Prop := Same H H' ∧ (Rp K H' v d ∨ ∃ a m, v = .ref a ∧ H a = none ∧ MRep K H' a m ∧ d = m.view)
theorem OutD.here {K : PySem.W.Frag} {H : Hp} {v : V} {d : D} (h : Rp K H v d) : OutD K H v H d := ⟨Same.refl H, .inl h⟩
theorem OutD.tup {K : PySem.W.Frag} {H : Hp} {p : Addr} {xs : List V} {ds : List D} (n : H p = none) (r : Rps K H xs ds) : OutD K H (.ref p) (upd H p (.tup xs)) (.tuple ds) :=
  ⟨Same.new n, .inl (.tup (.inl (.inl (stab_tup upd_same))) (r.ext (Ext.new n)))⟩
theorem OutD.lst {K : PySem.W.Frag} {H : Hp} {p : Addr} {xs : List V} {ds : List D} (n : H p = none) (r : Rps K H xs ds) : OutD K H (.ref p) (upd H p (.lst xs)) (.list ds) :=
  ⟨Same.new n, .inr ⟨p, .lst ds, rfl, n, ⟨xs, upd_same, r.ext (Ext.new n)⟩, rfl⟩⟩
abbrev OD := D → D → (D → Prop) → Prop
def OpD (X : Cx) (f : Value → Value → Sem Value) (od : OD) : Prop := ∃ r : R2, OpR X f r ∧ ∀ (x y : D) (v u : V) (H : Hp) (Qv : VK) (Q : D → Prop), VR X.K H v x → VR X.K H u y → od x y Q →
  (∀ d v' H', OutD X.K H v' H' d → Q d → Qv v' H') → r v u H Qv
abbrev CD := List D → (D → Prop) → Prop
inductive VRs (K : PySem.W.Frag) (H : Hp) : List V → List D → Prop
  | nil : VRs K H [] []
  | cons {v : V} {vs : List V} {d : D} {ds : List D} : VR K H v d → VRs K H vs ds → VRs K H (v :: vs) (d :: ds)
def CallD (X : Cx) (f : Value) (cd : CD) : Prop := ∃ r : List V → Hp → VK → Prop, CallR X f r ∧ ∀ (ds : List D) (vs : List V) (H : Hp) (Qv : VK) (Q : D → Prop), VRs X.K H vs ds → cd ds Q →
  (∀ d v' H', OutD X.K H v' H' d → Q d → Qv v' H') → r vs H Qv
/-- .. whose result is a new object -/
def OutM (K : PySem.W.Frag) (H : Hp) (v : V) (H' : Hp) (m : M) : Prop := Same H H' ∧ ∃ a, v = .ref a ∧ H a = none ∧ MRep K H' a m
theorem OutM.lst {K : PySem.W.Frag} {H : Hp} {p : Addr} {xs : List V} {ds : List D} (n : H p = none) (r : Rps K H xs ds) : OutM K H (.ref p) (upd H p (.lst xs)) (.lst ds) :=
  ⟨Same.new n, p, rfl, n, ⟨xs, upd_same, r.ext (Ext.new n)⟩⟩
abbrev CM := List D → (M → Prop) → Prop
def CallM (X : Cx) (f : Value) (cm : CM) : Prop := ∃ r : List V → Hp → VK → Prop, CallR X f r ∧ ∀ (ds : List D) (vs : List V) (H : Hp) (Qv : VK) (Q : M → Prop), VRs X.K H vs ds → cm ds Q →
  (∀ m v' H', OutM X.K H v' H' m → Q m → Qv v' H') → r vs H Qv
abbrev OM := D → D → (M → Prop) → Prop
def OpM (X : Cx) (f : Value → Value → Sem Value) (om : OM) : Prop := ∃ r : R2, OpR X f r ∧ ∀ (x y : D) (v u : V) (H : Hp) (Qv : VK) (Q : M → Prop), VR X.K H v x → VR X.K H u y → om x y Q →
  (∀ m v' H', OutM X.K H v' H' m → Q m → Qv v' H') → r v u H Qv

section
variable {X : Cx} {c : DC} {a b e : Expr} {es : List Expr} {pos : Pos}
/-- the end of an operation: what it gives is locked -/
theorem out_end {σ σ1 : DS} {σv : VS} {H H1 H2 : Hp} {v : V} {d : D} {Qv : VK} {Q : D → DS → Prop} (g : Gd X.K c σ1 σv H1) (x : Mv σ σv H σ1 σv H1) (o : OutD X.K H1 v H2 d) (q : Q d σ1)
    (k : ∀ d σ' v H', Gd X.K c σ' σv H' → Mv σ σv H σ' σv H' → Rp X.K H' v d → Q d σ' → Qv v H') : Qv v H2 ∨ ∃ a u, H2 a = some u ∧ Lk u ∧ ∀ o, Qv v (upd H2 a (.frz o u)) := by
  obtain ⟨sm, r | ⟨a, m, rfl, n, r, rfl⟩⟩ := o
  · exact .inl (k _ _ _ _ (g.same sm) (x.trans (Mv.same sm)) r q)
  · obtain ⟨u, h4, h5, h6⟩ := lock_new (g.same sm) (x.trans (Mv.same sm)) (Fresh.mk' g x n r)
    exact .inr ⟨a, u, h4, h5, fun o => k _ _ _ _ (h6 o).1 (h6 o).2.1 (h6 o).2.2 q⟩
def vw (σ : DS) (r : R) (k : D → Prop) : Prop := match view σ r with
  | some x => k x
  | none => False
theorem vw_of {σ : DS} {r : R} {k : D → Prop} (h : vw σ r k) : ∃ x, view σ r = some x ∧ k x := by
  unfold vw at h
  split at h
  · next x e => exact ⟨x, e, h⟩
  · exact h.elim
def dOp (od : OD) (ta tb : DT) : DV := fun W σ Q => ta W σ fun r1 σ1 => tb W σ1 fun r2 σ2 => vw σ2 r1 fun x => vw σ2 r2 fun y => od x y fun d => Q d σ2
theorem dev_bin {op : Operator} {od : OD} {ta tb : DT} (ho : OpD X (binaryOp op) od) (ha : DE X c a ta) (hb : DE X c b tb) : DEv X c (.BinOp a op b pos) (dOp od ta tb) := fun n W tk => by
  obtain ⟨tv, pa, hra⟩ := ha n W tk
  obtain ⟨uv, pb, hrb⟩ := hb n W tk
  obtain ⟨r, po, hro⟩ := ho
  refine ⟨_, pe_lk (pe_op po pa pb), fun σ σv H Q Qv g up q k => ?_⟩
  refine hra σ σv H _ _ g up q fun r1 σ1 v1 H1 g1 x1 rr1 q1 => ?_
  refine hrb σ1 σv H1 _ _ g1 (up.trans x1) q1 fun r2 σ2 v2 H2 g2 x2 rr2 q2 => ?_
  obtain ⟨x, e1, q3⟩ := vw_of q2
  obtain ⟨y, e2, q4⟩ := vw_of q3
  exact hro x y v1 v2 H2 _ _ (g2.view (rr1.ext x2.ext) e1) (g2.view rr2 e2) q4 fun d v' H' o q5 => out_end g2 (x1.trans x2) o q5 k
theorem dev_cmp {op : CmpOp} {od : OD} {ta tb : DT} (ho : OpD X (compareOp op) od) (ha : DE X c a ta) (hb : DE X c b tb) (hm : behindInMarks op b = false) : DEv X c (.Compare a [op] [b] pos) (dOp od ta tb) := fun n W tk => by
  obtain ⟨tv, pa, hra⟩ := ha n W tk
  obtain ⟨uv, pb, hrb⟩ := hb n W tk
  obtain ⟨r, po, hro⟩ := ho
  refine ⟨_, pe_lk (pe_cmpR po pa pb hm), fun σ σv H Q Qv g up q k => ?_⟩
  refine hra σ σv H _ _ g up q fun r1 σ1 v1 H1 g1 x1 rr1 q1 => ?_
  refine hrb σ1 σv H1 _ _ g1 (up.trans x1) q1 fun r2 σ2 v2 H2 g2 x2 rr2 q2 => ?_
  obtain ⟨x, e1, q3⟩ := vw_of q2
  obtain ⟨y, e2, q4⟩ := vw_of q3
  exact hro x y v1 v2 H2 _ _ (g2.view (rr1.ext x2.ext) e1) (g2.view rr2 e2) q4 fun d v' H' o q5 => out_end g2 (x1.trans x2) o q5 k
def dOpM (om : OM) (ta tb : DT) : DM := fun W σ Q => ta W σ fun r1 σ1 => tb W σ1 fun r2 σ2 => vw σ2 r1 fun x => vw σ2 r2 fun y => om x y fun m => Q m σ2
theorem dem_bin {op : Operator} {om : OM} {ta tb : DT} (ho : OpM X (binaryOp op) om) (ha : DE X c a ta) (hb : DE X c b tb) : DEm X c (.BinOp a op b pos) (dOpM om ta tb) := fun n W tk => by
  obtain ⟨tv, pa, hra⟩ := ha n W tk
  obtain ⟨uv, pb, hrb⟩ := hb n W tk
  obtain ⟨r, po, hro⟩ := ho
  refine ⟨_, pe_op po pa pb, fun σ σv H Q Qv g up q k => ?_⟩
  refine hra σ σv H _ _ g up q fun r1 σ1 v1 H1 g1 x1 rr1 q1 => ?_
  refine hrb σ1 σv H1 _ _ g1 (up.trans x1) q1 fun r2 σ2 v2 H2 g2 x2 rr2 q2 => ?_
  obtain ⟨x, e1, q3⟩ := vw_of q2
  obtain ⟨y, e2, q4⟩ := vw_of q3
  refine hro x y v1 v2 H2 _ _ (g2.view (rr1.ext x2.ext) e1) (g2.view rr2 e2) q4 fun m v' H' ⟨sm, z, ez, n, r⟩ q5 => ?_
  subst ez
  exact k _ _ _ _ (g2.same sm) ((x1.trans x2).trans (Mv.same sm)) (Fresh.mk' g2 (x1.trans x2) n r) q5
/-- operands of a call of a built-in: as they stand -/
def DRs (X : Cx) (c : DC) (es : List Expr) (t : DK → DS → (List R → DS → Prop) → Prop) : Prop := ∀ n W, TK X c n W → ∃ tv, PA X es tv ∧ ∀ σ σv H Q Qv, Gd X.K c σ σv H → Up n σ σv H → t W σ Q →
  (∀ rs σ' vs H', Gd X.K c σ' σv H' → Mv σ σv H σ' σv H' → vs.length = rs.length → (∀ (i : Nat) (v : V) (r : R), vs[i]? = some v → rs[i]? = some r → RR X.K σv H' v r) → Q rs σ' → Qv vs H') → tv σv H Qv
abbrev DR := DK → DS → (List R → DS → Prop) → Prop
def drNil : DR := fun _ σ Q => Q [] σ
def drCons (t : DT) (u : DR) : DR := fun W σ Q => t W σ fun d σ1 => u W σ1 fun ds σ2 => Q (d :: ds) σ2
theorem dr_nil : DRs X c [] drNil := fun n W tk => ⟨_, pa_nil, fun σ σv H Q Qv g up q k => k _ _ _ _ g (Mv.refl σ σv H) rfl (fun i v r h => by simp at h) q⟩
theorem dr_cons {t : DT} {u : DR} (h : DE X c e t) (hs : DRs X c es u) (hst : starEach (e :: es) X.env = (false, eval e X.env) :: starEach es X.env := by rfl) : DRs X c (e :: es) (drCons t u) := fun n W tk => by
  obtain ⟨tv, pe, hr⟩ := h n W tk
  obtain ⟨uv, pa, hr2⟩ := hs n W tk
  refine ⟨_, pa_cons pe pa hst, fun σ σv H Q Qv g up q k => ?_⟩
  refine hr σ σv H _ _ g up q fun d σ1 v H1 g1 x1 r1 q1 => ?_
  refine hr2 σ1 σv H1 _ _ g1 (up.trans x1) q1 fun ds σ2 vs H2 g2 x2 l2 r2 q2 => k _ _ _ _ g2 (x1.trans x2) (by simp [l2]) (fun i w r h1 h2 => ?_) q2
  cases i with
  | zero => simp at h1 h2; subst h1; subst h2; exact r1.ext x2.ext
  | succ i => exact r2 i w r (by simpa using h1) (by simpa using h2)
def vws (σ : DS) : List R → (List D → Prop) → Prop
  | [], k => k []
  | r :: rs, k => vw σ r fun x => vws σ rs fun xs => k (x :: xs)
theorem vws_of {σ : DS} {σv : VS} {H : Hp} (g : Gd X.K c σ σv H) : ∀ {rs : List R} {vs : List V} {k : List D → Prop}, vs.length = rs.length → (∀ (i : Nat) (v : V) (r : R), vs[i]? = some v → rs[i]? = some r → RR X.K σv H v r) → vws σ rs k → ∃ ds, VRs X.K H vs ds ∧ k ds
  | [], [], k, _, _, h => ⟨[], .nil, h⟩
  | [], _ :: _, k, l, _, _ => by simp at l
  | _ :: _, [], k, l, _, _ => by simp at l
  | r :: rs, v :: vs, k, l, hr, h => by
    obtain ⟨x, e1, h1⟩ := vw_of h
    obtain ⟨ds, h2, h3⟩ := vws_of g (rs := rs) (vs := vs) (by simpa using l) (fun i w q a b => hr (i + 1) w q (by simpa using a) (by simpa using b)) h1
    exact ⟨x :: ds, .cons (g.view (hr 0 v r rfl rfl) e1) h2, h3⟩
def dCallB (cd : CD) (t : DR) : DV := fun W σ Q => t W σ fun rs σ1 => vws σ1 rs fun ds => cd ds fun d => Q d σ1
theorem dev_callB {x : Str} {p : Pos} {id : String} {cd : CD} {t : DR} (hc : CallD X (.builtin id) cd) (hg : Gl X x) (hm : X.mg x = none) (hv : bootBuiltins x = some (.builtin id)) (ha : DRs X c (e :: es) t) (hn : x ≠ "__name__" := by decide +kernel) (hdb : (x == ("__debug__" : Str)) = false := by decide +kernel)
    (he : starEach (e :: es) X.env = (false, eval e X.env) :: starEach es X.env := by rfl) (hpl : (backTo pos (starEach es X.env)).any (·.1) = false := by rfl) : DEv X c (.Call (.Name x p) (e :: es) [] pos) (dCallB cd t) := fun n W tk => by
  obtain ⟨tv, pa, hr⟩ := ha n W tk
  obtain ⟨r, pc, hrc⟩ := hc
  refine ⟨_, pe_lk (pe_callB pc hg hm hv pa hn hdb he hpl), fun σ σv H Q Qv g up q k => ?_⟩
  refine hr σ σv H _ _ g up q fun rs σ1 vs H1 g1 x1 l1 rr1 q1 => ?_
  obtain ⟨ds, h1, h2⟩ := vws_of g1 l1 rr1 q1
  exact hrc ds vs H1 _ _ h1 h2 fun d v' H' o q5 => out_end g1 x1 o q5 k
theorem dev_callT {x : Str} {p : Pos} {T : String} {cd : CD} {t : DR} (hc : CallD X (.type T) cd) (hg : Gl X x) (hm : X.mg x = none) (hv : bootBuiltins x = some (.type T)) (ha : DRs X c (e :: es) t) (hn : x ≠ "__name__" := by decide +kernel) (hdb : (x == ("__debug__" : Str)) = false := by decide +kernel)
    (he : starEach (e :: es) X.env = (false, eval e X.env) :: starEach es X.env := by rfl) (hpl : (backTo pos (starEach es X.env)).any (·.1) = false := by rfl) : DEv X c (.Call (.Name x p) (e :: es) [] pos) (dCallB cd t) := fun n W tk => by
  obtain ⟨tv, pa, hr⟩ := ha n W tk
  obtain ⟨r, pc, hrc⟩ := hc
  refine ⟨_, pe_lk (pe_callTy pc hg hm hv pa hn hdb he hpl), fun σ σv H Q Qv g up q k => ?_⟩
  refine hr σ σv H _ _ g up q fun rs σ1 vs H1 g1 x1 l1 rr1 q1 => ?_
  obtain ⟨ds, h1, h2⟩ := vws_of g1 l1 rr1 q1
  exact hrc ds vs H1 _ _ h1 h2 fun d v' H' o q5 => out_end g1 x1 o q5 k
def dCallM (cm : CM) (t : DR) : DM := fun W σ Q => t W σ fun rs σ1 => vws σ1 rs fun ds => cm ds fun d => Q d σ1
theorem dem_callT {x : Str} {p : Pos} {T : String} {cm : CM} {t : DR} (hc : CallM X (.type T) cm) (hg : Gl X x) (hm : X.mg x = none) (hv : bootBuiltins x = some (.type T)) (ha : DRs X c (e :: es) t) (hn : x ≠ "__name__" := by decide +kernel) (hdb : (x == ("__debug__" : Str)) = false := by decide +kernel)
    (he : starEach (e :: es) X.env = (false, eval e X.env) :: starEach es X.env := by rfl) (hpl : (backTo pos (starEach es X.env)).any (·.1) = false := by rfl) : DEm X c (.Call (.Name x p) (e :: es) [] pos) (dCallM cm t) := fun n W tk => by
  obtain ⟨tv, pa, hr⟩ := ha n W tk
  obtain ⟨r, pc, hrc⟩ := hc
  refine ⟨_, pe_callTy pc hg hm hv pa hn hdb he hpl, fun σ σv H Q Qv g up q k => ?_⟩
  refine hr σ σv H _ _ g up q fun rs σ1 vs H1 g1 x1 l1 rr1 q1 => ?_
  obtain ⟨ds, h1, h2⟩ := vws_of g1 l1 rr1 q1
  refine hrc ds vs H1 _ _ h1 h2 fun m v' H' ⟨sm, z, ez, n, r⟩ q5 => ?_
  subst ez
  exact k _ _ _ _ (g1.same sm) (x1.trans (Mv.same sm)) (Fresh.mk' g1 x1 n r) q5
theorem dem_callB {x : Str} {p : Pos} {id : String} {cm : CM} {t : DR} (hc : CallM X (.builtin id) cm) (hg : Gl X x) (hm : X.mg x = none) (hv : bootBuiltins x = some (.builtin id)) (ha : DRs X c (e :: es) t) (hn : x ≠ "__name__" := by decide +kernel) (hdb : (x == ("__debug__" : Str)) = false := by decide +kernel)
    (he : starEach (e :: es) X.env = (false, eval e X.env) :: starEach es X.env := by rfl) (hpl : (backTo pos (starEach es X.env)).any (·.1) = false := by rfl) : DEm X c (.Call (.Name x p) (e :: es) [] pos) (dCallM cm t) := fun n W tk => by
  obtain ⟨tv, pa, hr⟩ := ha n W tk
  obtain ⟨r, pc, hrc⟩ := hc
  refine ⟨_, pe_callB pc hg hm hv pa hn hdb he hpl, fun σ σv H Q Qv g up q k => ?_⟩
  refine hr σ σv H _ _ g up q fun rs σ1 vs H1 g1 x1 l1 rr1 q1 => ?_
  obtain ⟨ds, h1, h2⟩ := vws_of g1 l1 rr1 q1
  refine hrc ds vs H1 _ _ h1 h2 fun m v' H' ⟨sm, z, ez, n, r⟩ q5 => ?_
  subst ez
  exact k _ _ _ _ (g1.same sm) (x1.trans (Mv.same sm)) (Fresh.mk' g1 x1 n r) q5
end
end DL
namespace DL
open PySem PySem.Spec PyProof.Rows L2

/-! ### truth, tests -/
def tru : D → (Bool → Prop) → Prop
  | .none, k => k false
  | .bool b, k => k b
  | .int i, k => k (i != 0)
  | .str x, k => x.length ≤ sizeLine ∧ k ((x.length : Int) != 0)
  | .list xs, k => k (!xs.isEmpty)
  | .tuple xs, k => k (!xs.isEmpty)
  | .dict _, _ => False
theorem tru_of {K : PySem.W.Frag} {H : Hp} {v : V} {d : D} {k : Bool → Prop} (r : VR K H v d) (h : tru d k) : ∃ b, TruV K v H b ∧ k b := by
  cases d with
  | none => cases r.none; exact ⟨_, rfl, h⟩
  | bool b => cases r.bool; exact ⟨_, rfl, h⟩
  | int i => cases r.int; exact ⟨_, rfl, h⟩
  | str x => cases r.str; exact ⟨_, ⟨h.1, rfl⟩, h.2⟩
  | list xs =>
    obtain ⟨a, ys, rfl, h1, h2⟩ := r.lst
    have e : ys.isEmpty = xs.isEmpty := by cases h2 <;> rfl
    exact ⟨_, .inl ⟨ys, .inl h1, rfl⟩, by rw [e]; exact h⟩
  | tuple xs =>
    obtain ⟨a, ys, rfl, h1, _, h2⟩ := r.tup
    have e : ys.isEmpty = xs.isEmpty := by cases h2 <;> rfl
    exact ⟨_, .inr (.inl ⟨ys, h1, rfl⟩), by rw [e]; exact h⟩
  | dict _ => exact h.elim
def isBl : D → (Bool → Prop) → Prop
  | .bool b, k => k b
  | _, _ => False
theorem isBl_of {d : D} {k : Bool → Prop} (h : isBl d k) : ∃ b, d = .bool b ∧ k b := by
  cases d <;> first | exact ⟨_, rfl, h⟩ | exact h.elim
theorem OutD.bl {K : PySem.W.Frag} {H H' : Hp} {v : V} {b : Bool} (o : OutD K H v H' (.bool b)) : v = .bl b ∧ Same H H' := by
  obtain ⟨sm, r | ⟨a, m, _, _, _, e⟩⟩ := o
  · cases r; exact ⟨rfl, sm⟩
  · cases m <;> cases e

section
variable {X : Cx} {c : DC} {a b e : Expr} {es rest : List Expr} {pos : Pos}
def bTru (t : DT) : DB := fun W σ Q => t W σ fun r σ1 => vw σ1 r fun d => tru d fun k => Q k σ1
theorem db_tru {t : DT} (h : DE X c e t) (he : ∀ whole, isTrue e X.env whole = (do let v ← whole; standAt e.pos; holding [v] (truthy v)) := by intro _; rfl) : DBt X c e (bTru t) := fun n W tk => by
  obtain ⟨tv, pe, hr⟩ := h n W tk
  refine ⟨_, pt_truth pe he, fun σ σv H Q Qv g up q k => ?_⟩
  refine hr σ σv H _ _ g up q fun r σ1 v H1 g1 x1 rr1 q1 => ?_
  obtain ⟨d, e1, q2⟩ := vw_of q1
  obtain ⟨b, h1, h2⟩ := tru_of (g1.view rr1 e1) q2
  exact ⟨b, h1, k _ _ _ g1 x1 h2⟩
def bOp (od : OD) (ta tb : DT) : DB := fun W σ Q => ta W σ fun r1 σ1 => tb W σ1 fun r2 σ2 => vw σ2 r1 fun x => vw σ2 r2 fun y => od x y fun d => isBl d fun k => Q k σ2
theorem db_cmp {op : CmpOp} {od : OD} {ta tb : DT} (ho : OpD X (compareOp op) od) (ha : DE X c a ta) (hb : DE X c b tb) (hm : behindInMarks op b = false) : DBt X c (.Compare a [op] [b] pos) (bOp od ta tb) := fun n W tk => by
  obtain ⟨tv, pa, hra⟩ := ha n W tk
  obtain ⟨uv, pb, hrb⟩ := hb n W tk
  obtain ⟨r, po, hro⟩ := ho
  refine ⟨_, pt_cmpR po pa pb hm, fun σ σv H Q Qv g up q k => ?_⟩
  refine hra σ σv H _ _ g up q fun r1 σ1 v1 H1 g1 x1 rr1 q1 => ?_
  refine hrb σ1 σv H1 _ _ g1 (up.trans x1) q1 fun r2 σ2 v2 H2 g2 x2 rr2 q2 => ?_
  obtain ⟨x, e1, q3⟩ := vw_of q2
  obtain ⟨y, e2, q4⟩ := vw_of q3
  refine hro x y v1 v2 H2 _ _ (g2.view (rr1.ext x2.ext) e1) (g2.view rr2 e2) q4 fun d v' H' o q5 => ?_
  obtain ⟨z, rfl, q6⟩ := isBl_of q5
  obtain ⟨rfl, sm⟩ := o.bl
  exact ⟨z, rfl, k _ _ _ (g2.same sm) ((x1.trans x2).trans (Mv.same sm)) q6⟩
def bChain (od od' : OD) (ta tb tc : DT) : DB := fun W σ Q => ta W σ fun r1 σ1 => tb W σ1 fun r2 σ2 => vw σ2 r1 fun x => vw σ2 r2 fun y => od x y fun d => isBl d fun k =>
  if k = true then tc W σ2 fun r3 σ3 => vw σ3 r2 fun y' => vw σ3 r3 fun z => od' y' z fun d => isBl d fun k => Q k σ3 else Q false σ2
theorem db_chain {op op' : CmpOp} {od od' : OD} {ta tb tc : DT} {b2 : Expr} (ho : OpD X (compareOp op) od) (ho' : OpD X (compareOp op') od') (ha : DE X c a ta) (hb : DE X c b tb) (hc : DE X c b2 tc) (hm : lastMarks [op, op'] [b, b2] = false := by with_unfolding_all rfl) :
    DBt X c (.Compare a [op, op'] [b, b2] pos) (bChain od od' ta tb tc) := fun n W tk => by
  obtain ⟨tv, pa, hra⟩ := ha n W tk
  obtain ⟨uv, pb, hrb⟩ := hb n W tk
  obtain ⟨wv', pc, hrc⟩ := hc n W tk
  obtain ⟨r, po, hro⟩ := ho
  obtain ⟨r', po', hro'⟩ := ho'
  refine ⟨_, pt_chain po po' pa pb pc hm, fun σ σv H Q Qv g up q k => ?_⟩
  refine hra σ σv H _ _ g up q fun r1 σ1 v1 H1 g1 x1 rr1 q1 => ?_
  refine hrb σ1 σv H1 _ _ g1 (up.trans x1) q1 fun r2 σ2 v2 H2 g2 x2 rr2 q2 => ?_
  obtain ⟨x, e1, q3⟩ := vw_of q2
  obtain ⟨y, e2, q4⟩ := vw_of q3
  refine hro x y v1 v2 H2 _ _ (g2.view (rr1.ext x2.ext) e1) (g2.view rr2 e2) q4 fun d v' H' o q5 => ?_
  obtain ⟨z, rfl, q6⟩ := isBl_of q5
  obtain ⟨rfl, sm⟩ := o.bl
  refine ⟨z, rfl, ?_⟩
  cases z with
  | false =>
    rw [if_neg (by decide)] at q6 ⊢
    exact ⟨false, rfl, k _ _ _ (g2.same sm) ((x1.trans x2).trans (Mv.same sm)) q6⟩
  | true =>
    rw [if_pos rfl] at q6 ⊢
    refine hrc σ2 σv H' _ _ (g2.same sm) ((up.trans x1).trans (x2.trans (Mv.same sm))) q6 fun r3 σ3 v3 H3 g3 x3 rr3 q7 => ?_
    obtain ⟨y', e3, q8⟩ := vw_of q7
    obtain ⟨w, e4, q9⟩ := vw_of q8
    refine hro' y' w v2 v3 H3 _ _ (g3.view ((rr2.ext (Ext.same sm)).ext x3.ext) e3) (g3.view rr3 e4) q9 fun d v4 H4 o' q10 => ?_
    obtain ⟨z2, rfl, q11⟩ := isBl_of q10
    obtain ⟨rfl, sm'⟩ := o'.bl
    exact ⟨z2, rfl, k _ _ _ (g3.same sm') ((((x1.trans x2).trans (Mv.same sm)).trans x3).trans (Mv.same sm')) q11⟩
def vChain (od od' : OD) (ta tb tc : DT) : DV := fun W σ Q => bChain od od' ta tb tc W σ fun k σ1 => Q (.bool k) σ1
theorem dev_chain {op op' : CmpOp} {od od' : OD} {ta tb tc : DT} {b2 : Expr} (ho : OpD X (compareOp op) od) (ho' : OpD X (compareOp op') od') (ha : DE X c a ta) (hb : DE X c b tb) (hc : DE X c b2 tc) (hm : lastMarks [op, op'] [b, b2] = false := by with_unfolding_all rfl) :
    DEv X c (.Compare a [op, op'] [b, b2] pos) (vChain od od' ta tb tc) := fun n W tk => by
  obtain ⟨tv, pa, hra⟩ := ha n W tk
  obtain ⟨uv, pb, hrb⟩ := hb n W tk
  obtain ⟨wv', pc, hrc⟩ := hc n W tk
  obtain ⟨r, po, hro⟩ := ho
  obtain ⟨r', po', hro'⟩ := ho'
  refine ⟨_, pe_chain po po' pa pb pc hm, fun σ σv H Q Qv g up q k => ?_⟩
  refine hra σ σv H _ _ g up q fun r1 σ1 v1 H1 g1 x1 rr1 q1 => ?_
  refine hrb σ1 σv H1 _ _ g1 (up.trans x1) q1 fun r2 σ2 v2 H2 g2 x2 rr2 q2 => ?_
  obtain ⟨x, e1, q3⟩ := vw_of q2
  obtain ⟨y, e2, q4⟩ := vw_of q3
  refine hro x y v1 v2 H2 _ _ (g2.view (rr1.ext x2.ext) e1) (g2.view rr2 e2) q4 fun d v' H' o q5 => ?_
  obtain ⟨z, rfl, q6⟩ := isBl_of q5
  obtain ⟨rfl, sm⟩ := o.bl
  refine ⟨z, rfl, ?_⟩
  cases z with
  | false =>
    rw [if_neg (by decide)] at q6 ⊢
    exact k _ _ _ _ (g2.same sm) ((x1.trans x2).trans (Mv.same sm)) (.bl false) q6
  | true =>
    rw [if_pos rfl] at q6 ⊢
    refine hrc σ2 σv H' _ _ (g2.same sm) ((up.trans x1).trans (x2.trans (Mv.same sm))) q6 fun r3 σ3 v3 H3 g3 x3 rr3 q7 => ?_
    obtain ⟨y', e3, q8⟩ := vw_of q7
    obtain ⟨w, e4, q9⟩ := vw_of q8
    refine hro' y' w v2 v3 H3 _ _ (g3.view ((rr2.ext (Ext.same sm)).ext x3.ext) e3) (g3.view rr3 e4) q9 fun d v4 H4 o' q10 => ?_
    obtain ⟨z2, rfl, q11⟩ := isBl_of q10
    obtain ⟨rfl, sm'⟩ := o'.bl
    exact k _ _ _ _ (g3.same sm') ((((x1.trans x2).trans (Mv.same sm)).trans x3).trans (Mv.same sm')) (.bl z2) q11

def bAnd (ta tb : DB) : DB := fun W σ Q => ta W σ fun k σ1 => if k = true then tb W σ1 Q else Q false σ1
def bOr (ta tb : DB) : DB := fun W σ Q => ta W σ fun k σ1 => if k = true then Q true σ1 else tb W σ1 Q
def bNot (ta : DB) : DB := fun W σ Q => ta W σ fun k σ1 => Q (!k) σ1
/-- a chain of and, or: the rest of it -/
def DW (X : Cx) (c : DC) (e : Expr) (t : DB) : Prop := ∀ n W, TK X c n W → ∃ tv, PW X e tv ∧ ∀ σ σv H Q Qv, Gd X.K c σ σv H → Up n σ σv H → t W σ Q →
  (∀ b σ' H', Gd X.K c σ' σv H' → Mv σ σv H σ' σv H' → Q b σ' → Qv b H') → tv σv H Qv
theorem dw_and1 {t : DB} (h : DBt X c a t) : DW X c (.BoolOp .And [a] pos) t := fun n W tk => let ⟨tv, pe, hr⟩ := h n W tk; ⟨tv, pw_and1 pe, hr⟩
theorem dw_or1 {t : DB} (h : DBt X c a t) : DW X c (.BoolOp .Or [a] pos) t := fun n W tk => let ⟨tv, pe, hr⟩ := h n W tk; ⟨tv, pw_or1 pe, hr⟩
theorem dw_and {t u : DB} (h : DBt X c a t) (h2 : DW X c (.BoolOp .And (b :: rest) pos) u) : DW X c (.BoolOp .And (a :: b :: rest) pos) (bAnd t u) := fun n W tk => by
  obtain ⟨tv, pa, hra⟩ := h n W tk
  obtain ⟨uv, pb, hrb⟩ := h2 n W tk
  refine ⟨_, pw_and pa pb, fun σ σv H Q Qv g up q k => ?_⟩
  refine hra σ σv H _ _ g up q fun z σ1 H1 g1 x1 q1 => ?_
  show if z = true then _ else _
  cases z with
  | true => exact hrb σ1 σv H1 _ _ g1 (up.trans x1) q1 fun z σ2 H2 g2 x2 q2 => k _ _ _ g2 (x1.trans x2) q2
  | false => exact k _ _ _ g1 x1 q1
theorem dw_or {t u : DB} (h : DBt X c a t) (h2 : DW X c (.BoolOp .Or (b :: rest) pos) u) : DW X c (.BoolOp .Or (a :: b :: rest) pos) (bOr t u) := fun n W tk => by
  obtain ⟨tv, pa, hra⟩ := h n W tk
  obtain ⟨uv, pb, hrb⟩ := h2 n W tk
  refine ⟨_, pw_or pa pb, fun σ σv H Q Qv g up q k => ?_⟩
  refine hra σ σv H _ _ g up q fun z σ1 H1 g1 x1 q1 => ?_
  show if z = true then _ else _
  cases z with
  | false => exact hrb σ1 σv H1 _ _ g1 (up.trans x1) q1 fun z σ2 H2 g2 x2 q2 => k _ _ _ g2 (x1.trans x2) q2
  | true => exact k _ _ _ g1 x1 q1
theorem db_w {t : DB} (h : DW X c e t) : DBt X c e t := fun n W tk => let ⟨tv, pe, hr⟩ := h n W tk; ⟨tv, pe.pt, hr⟩
theorem db_not {t : DB} (h : DBt X c a t) : DBt X c (.UnaryOp .Not a pos) (bNot t) := fun n W tk => by
  obtain ⟨tv, pa, hra⟩ := h n W tk
  exact ⟨_, pt_not pa, fun σ σv H Q Qv g up q k => hra σ σv H _ _ g up q fun z σ1 H1 g1 x1 q1 => k _ _ _ g1 x1 q1⟩
/-- and, or, not as values (data) -/
def vAnd (ta tb : DV) : DV := fun W σ Q => ta W σ fun d σ1 => tru d fun k => if k = true then tb W σ1 Q else Q d σ1
def vOr (ta tb : DV) : DV := fun W σ Q => ta W σ fun d σ1 => tru d fun k => if k = true then Q d σ1 else tb W σ1 Q
def vNot (ta : DT) : DV := fun W σ Q => ta W σ fun r σ1 => vw σ1 r fun d => tru d fun k => Q (.bool (!k)) σ1
theorem dev_one {op} {t : DV} (h : DEv X c a t) : DEv X c (.BoolOp op [a] pos) t := fun n W tk => let ⟨tv, pe, hr⟩ := h n W tk; ⟨tv, pe_one pe, hr⟩
theorem dev_and {t u : DV} (h : DEv X c a t) (h2 : DEv X c (.BoolOp .And (b :: rest) pos) u) : DEv X c (.BoolOp .And (a :: b :: rest) pos) (vAnd t u) := fun n W tk => by
  obtain ⟨tv, pa, hra⟩ := h n W tk
  obtain ⟨uv, pb, hrb⟩ := h2 n W tk
  refine ⟨_, pe_andT pa pb, fun σ σv H Q Qv g up q k => ?_⟩
  refine hra σ σv H _ _ g up q fun d σ1 v H1 g1 x1 r1 q1 => ?_
  obtain ⟨z, h3, h4⟩ := tru_of (.inl r1) q1
  refine ⟨z, h3, ?_⟩
  cases z with
  | true => exact hrb σ1 σv H1 _ _ g1 (up.trans x1) h4 fun d σ2 v H2 g2 x2 r2 q2 => k _ _ _ _ g2 (x1.trans x2) r2 q2
  | false => exact k _ _ _ _ g1 x1 r1 h4
theorem dev_or {t u : DV} (h : DEv X c a t) (h2 : DEv X c (.BoolOp .Or (b :: rest) pos) u) : DEv X c (.BoolOp .Or (a :: b :: rest) pos) (vOr t u) := fun n W tk => by
  obtain ⟨tv, pa, hra⟩ := h n W tk
  obtain ⟨uv, pb, hrb⟩ := h2 n W tk
  refine ⟨_, pe_orT pa pb, fun σ σv H Q Qv g up q k => ?_⟩
  refine hra σ σv H _ _ g up q fun d σ1 v H1 g1 x1 r1 q1 => ?_
  obtain ⟨z, h3, h4⟩ := tru_of (.inl r1) q1
  refine ⟨z, h3, ?_⟩
  cases z with
  | false => exact hrb σ1 σv H1 _ _ g1 (up.trans x1) h4 fun d σ2 v H2 g2 x2 r2 q2 => k _ _ _ _ g2 (x1.trans x2) r2 q2
  | true => exact k _ _ _ _ g1 x1 r1 h4
theorem dev_not {t : DT} (h : DE X c a t) : DEv X c (.UnaryOp .Not a pos) (vNot t) := fun n W tk => by
  obtain ⟨tv, pa, hra⟩ := h n W tk
  refine ⟨_, pe_notT pa, fun σ σv H Q Qv g up q k => ?_⟩
  refine hra σ σv H _ _ g up q fun r σ1 v H1 g1 x1 r1 q1 => ?_
  obtain ⟨d, e1, q2⟩ := vw_of q1
  obtain ⟨z, h3, h4⟩ := tru_of (g1.view r1 e1) q2
  exact ⟨z, h3, k _ _ _ _ g1 x1 (.bl _) h4⟩
def vIf (tc : DB) (ta tb : DV) : DV := fun W σ Q => tc W σ fun k σ1 => if k = true then ta W σ1 Q else tb W σ1 Q
theorem dev_if {cnd : Expr} {tc : DB} {ta tb : DV} (hc : DBt X c cnd tc) (ha : DEv X c a ta) (hb : DEv X c b tb) : DEv X c (.IfExp cnd a b pos) (vIf tc ta tb) := fun n W tk => by
  obtain ⟨tv, pc, hrc⟩ := hc n W tk
  obtain ⟨uv, pa, hra⟩ := ha n W tk
  obtain ⟨wv', pb, hrb⟩ := hb n W tk
  refine ⟨_, pe_ifExp pc pa pb, fun σ σv H Q Qv g up q k => ?_⟩
  refine hrc σ σv H _ _ g up q fun z σ1 H1 g1 x1 q1 => ?_
  show if z = true then _ else _
  cases z with
  | true => exact hra σ1 σv H1 _ _ g1 (up.trans x1) q1 fun d σ2 v H2 g2 x2 r2 q2 => k _ _ _ _ g2 (x1.trans x2) r2 q2
  | false => exact hrb σ1 σv H1 _ _ g1 (up.trans x1) q1 fun d σ2 v H2 g2 x2 r2 q2 => k _ _ _ _ g2 (x1.trans x2) r2 q2

/-! ### subscripts -/
def IxD (X : Cx) (od : OD) : Prop := ∃ r : R2, IxR X r ∧ ∀ (x y : D) (v u : V) (H : Hp) (Qv : VK) (Q : D → Prop), VR X.K H v x → VR X.K H u y → od x y Q → (∀ d v' H', OutD X.K H v' H' d → Q d → Qv v' H') → r v u H Qv
theorem dev_ix {od : OD} {ta tb : DT} (ho : IxD X od) (ha : DE X c a ta) (hb : DE X c b tb) (hs : PlainIx b := by exact fun _ _ => rfl) : DEv X c (.Subscript a b pos) (dOp od ta tb) := fun n W tk => by
  obtain ⟨tv, pa, hra⟩ := ha n W tk
  obtain ⟨uv, pb, hrb⟩ := hb n W tk
  obtain ⟨r, po, hro⟩ := ho
  refine ⟨_, pe_lk (pe_ix po pa pb hs), fun σ σv H Q Qv g up q k => ?_⟩
  refine hra σ σv H _ _ g up q fun r1 σ1 v1 H1 g1 x1 rr1 q1 => ?_
  refine hrb σ1 σv H1 _ _ g1 (up.trans x1) q1 fun r2 σ2 v2 H2 g2 x2 rr2 q2 => ?_
  obtain ⟨x, e1, q3⟩ := vw_of q2
  obtain ⟨y, e2, q4⟩ := vw_of q3
  exact hro x y v1 v2 H2 _ _ (g2.view (rr1.ext x2.ext) e1) (g2.view rr2 e2) q4 fun d v' H' o q5 => out_end g2 (x1.trans x2) o q5 k
def ixD : OD
  | .list xs, .int i, k => match atI xs i with
    | some d => k d
    | none => False
  | .tuple xs, .int i, k => match atI xs i with
    | some d => k d
    | none => False
  | .str z, .int i, k => z.length ≤ sizeLine ∧ match atI z.cps.toList i with
    | some q => k (.str ⟨#[q]⟩)
    | none => False
  | _, _, _ => False
theorem atI_rps {K : PySem.W.Frag} {H : Hp} {xs : List V} {ds : List D} {i : Int} {d : D} (r : Rps K H xs ds) (h : atI ds i = some d) : ∃ v, atI xs i = some v ∧ Rp K H v d := by
  unfold atI at h ⊢
  rw [r.length]
  cases e : ixN ds.length i with
  | none => rw [e] at h; cases h
  | some j =>
    rw [e] at h
    obtain ⟨v, h1, h2⟩ := r.get (show ds[j]? = some d from h)
    exact ⟨v, h1, h2⟩
theorem ixd : IxD X ixD := by
  refine ⟨_, ix_list.or (ix_tup.or ix_str), fun x y v u H Qv Q rx ry h k => ?_⟩
  unfold ixD at h
  split at h
  · next xs i =>
    split at h
    · next d e =>
      obtain ⟨a, ys, rfl, h1, h2⟩ := rx.lst
      cases ry.int
      obtain ⟨w, h3, h4⟩ := atI_rps h2 e
      exact .inl ⟨a, ys, i, w, rfl, rfl, .inl h1, h3, k _ _ _ (.here h4) h⟩
    · exact h.elim
  · next xs i =>
    split at h
    · next d e =>
      obtain ⟨a, ys, rfl, h1, _, h2⟩ := rx.tup
      cases ry.int
      obtain ⟨w, h3, h4⟩ := atI_rps h2 e
      exact .inr (.inl ⟨a, ys, i, w, rfl, rfl, h1, h3, k _ _ _ (.here h4) h⟩)
    · exact h.elim
  · next z i =>
    obtain ⟨hz, h⟩ := h
    split at h
    · next q e =>
      cases rx.str
      cases ry.int
      exact .inr (.inr ⟨z, i, q, rfl, rfl, hz, e, k _ _ _ (.here (.str _)) h⟩)
    · exact h.elim
  · exact h.elim
/-! slices -/
def DO (X : Cx) (c : DC) (e : Option Expr) (t : DK → DS → (Option Int → DS → Prop) → Prop) : Prop := ∀ n W, TK X c n W → ∃ tv, PO X e tv ∧ ∀ σ σv H Q Qv, Gd X.K c σ σv H → Up n σ σv H → t W σ Q →
  (∀ o σ' H', Gd X.K c σ' σv H' → Mv σ σv H σ' σv H' → Q o σ' → Qv o H') → tv σv H Qv
def oNone : DK → DS → (Option Int → DS → Prop) → Prop := fun _ σ Q => Q none σ
def asInt : D → (Int → Prop) → Prop
  | .int i, k => k i
  | _, _ => False
def oSome (t : DT) : DK → DS → (Option Int → DS → Prop) → Prop := fun W σ Q => t W σ fun r σ1 => vw σ1 r fun d => asInt d fun i => Q (some i) σ1
theorem do_none : DO X c none oNone := fun n W tk => ⟨_, po_none, fun σ σv H Q Qv g up q k => k _ _ _ g (Mv.refl σ σv H) q⟩
theorem do_some {t : DT} (h : DE X c e t) : DO X c (some e) (oSome t) := fun n W tk => by
  obtain ⟨tv, pe, hr⟩ := h n W tk
  refine ⟨_, po_some pe, fun σ σv H Q Qv g up q k => ?_⟩
  refine hr σ σv H _ _ g up q fun r σ1 v H1 g1 x1 rr1 q1 => ?_
  obtain ⟨d, e1, q2⟩ := vw_of q1
  cases d <;> first | exact q2.elim | skip
  next i => exact ⟨i, (g1.view rr1 e1).int, k _ _ _ g1 x1 q2⟩
def cutD (xs : List D) (lo hi : Option Int) : List D := (xs.drop (HT.sIx xs.length 0 lo)).take (HT.sIx xs.length xs.length hi - HT.sIx xs.length 0 lo)
theorem cut_rps {K : PySem.W.Frag} {H : Hp} {xs : List V} {ds : List D} {lo hi : Option Int} (r : Rps K H xs ds) : Rps K H (cutV xs lo hi) (cutD ds lo hi) := by
  unfold cutV cutD
  rw [r.length]
  exact (r.drop _).take _
def slD : D → Option Int → Option Int → (D → Prop) → Prop
  | .list xs, lo, hi, k => k (.list (cutD xs lo hi))
  | .tuple xs, lo, hi, k => k (.tuple (cutD xs lo hi))
  | _, _, _, _ => False
def dSl (te : DT) (tl th : DK → DS → (Option Int → DS → Prop) → Prop) : DV := fun W σ Q => te W σ fun r σ1 => tl W σ1 fun lo σ2 => th W σ2 fun hi σ3 => vw σ3 r fun d => slD d lo hi fun d' => Q d' σ3
theorem dev_sl {lo hi : Option Expr} {te : DT} {tl th} {p2 : Pos} (he : DE X c e te) (hl : DO X c lo tl) (hh : DO X c hi th) : DEv X c (.Subscript e (.Slice lo hi none p2) pos) (dSl te tl th) := fun n W tk => by
  obtain ⟨tv, pe, hr⟩ := he n W tk
  obtain ⟨lv, pl, hrl⟩ := hl n W tk
  obtain ⟨uv, pu, hru⟩ := hh n W tk
  refine ⟨_, pe_lk (pe_slice (sl_list.or sl_tupA) pe pl pu), fun σ σv H Q Qv g up q k => ?_⟩
  refine hr σ σv H _ _ g up q fun r σ1 v H1 g1 x1 rr1 q1 => ?_
  refine hrl σ1 σv H1 _ _ g1 (up.trans x1) q1 fun o1 σ2 H2 g2 x2 q2 => ?_
  refine hru σ2 σv H2 _ _ g2 ((up.trans x1).trans x2) q2 fun o2 σ3 H3 g3 x3 q3 => ?_
  obtain ⟨d, e1, q4⟩ := vw_of q3
  have rv := g3.view ((rr1.ext x2.ext).ext x3.ext) e1
  have xx := (x1.trans x2).trans x3
  cases d <;> first | exact q4.elim | skip
  · next ds =>
    obtain ⟨a, ys, rfl, h1, h2⟩ := rv.lst
    exact .inl ⟨a, ys, rfl, .inl h1, fun p hp => out_end g3 xx (.lst hp (cut_rps h2)) q4 k⟩
  · next ds =>
    obtain ⟨a, ys, rfl, h1, h0, h2⟩ := rv.tup
    refine .inr ⟨a, ys, rfl, h1, fun hw => ?_, fun hw p hp => out_end g3 xx (.tup hp (cut_rps h2)) q4 k⟩
    have ec : cutD ds o1 o2 = ds := by
      unfold cutD
      rw [← h2.length, hw.1, hw.2]
      simp [h2.length]
    rw [show slD (.tuple ds) o1 o2 = fun k => k (.tuple (cutD ds o1 o2)) from rfl, ec] at q4
    exact out_end g3 xx (.here (.tup h0 h2)) q4 k
def slM : D → Option Int → Option Int → (M → Prop) → Prop
  | .list xs, lo, hi, k => k (.lst (cutD xs lo hi))
  | _, _, _, _ => False
def dSlM (te : DT) (tl th : DK → DS → (Option Int → DS → Prop) → Prop) : DM := fun W σ Q => te W σ fun r σ1 => tl W σ1 fun lo σ2 => th W σ2 fun hi σ3 => vw σ3 r fun d => slM d lo hi fun d' => Q d' σ3
theorem dem_sl {lo hi : Option Expr} {te : DT} {tl th} {p2 : Pos} (he : DE X c e te) (hl : DO X c lo tl) (hh : DO X c hi th) : DEm X c (.Subscript e (.Slice lo hi none p2) pos) (dSlM te tl th) := fun n W tk => by
  obtain ⟨tv, pe, hr⟩ := he n W tk
  obtain ⟨lv, pl, hrl⟩ := hl n W tk
  obtain ⟨uv, pu, hru⟩ := hh n W tk
  refine ⟨_, pe_slice sl_list pe pl pu, fun σ σv H Q Qv g up q k => ?_⟩
  refine hr σ σv H _ _ g up q fun r σ1 v H1 g1 x1 rr1 q1 => ?_
  refine hrl σ1 σv H1 _ _ g1 (up.trans x1) q1 fun o1 σ2 H2 g2 x2 q2 => ?_
  refine hru σ2 σv H2 _ _ g2 ((up.trans x1).trans x2) q2 fun o2 σ3 H3 g3 x3 q3 => ?_
  obtain ⟨d, e1, q4⟩ := vw_of q3
  have rv := g3.view ((rr1.ext x2.ext).ext x3.ext) e1
  have xx := (x1.trans x2).trans x3
  cases d <;> first | exact q4.elim | skip
  next ds =>
  obtain ⟨a, ys, rfl, h1, h2⟩ := rv.lst
  refine ⟨a, ys, rfl, .inl h1, fun p hp => ?_⟩
  have sm := Same.new (o := .lst (cutV ys o1 o2)) hp
  exact k _ _ _ _ (g3.same sm) (xx.trans (Mv.same sm)) (Fresh.mk' (m := .lst (cutD ds o1 o2)) g3 xx hp ⟨_, upd_same, (cut_rps h2).ext (Ext.new hp)⟩) q4
end
end DL
namespace DL
open PySem PySem.Spec PyProof.Rows L2

theorem Mv.setVal {σ : DS} {σv : VS} {H : Hp} {i : Nat} {d : D} {z : Option V} : Mv σ σv H (σ.set i (.val d)) (σv.set i z) H :=
  ⟨Ext.refl H, fun a o h n => ⟨h, fun ⟨j, m, h1, h2⟩ => by
    by_cases hj : i = j
    · subst hj
      have hl : i < σ.length := by have := (List.getElem?_eq_some_iff.mp h1).1; rw [List.length_set] at this; exact this
      rw [List.getElem?_set_self hl] at h1
      cases h1
    · rw [List.getElem?_set_ne hj] at h1 h2
      exact n ⟨j, m, h1, h2⟩⟩, fun a o h => ⟨o, h⟩⟩
theorem Mv.setOw {σ σ1 : DS} {σv : VS} {H H1 : Hp} {i : Nat} {m : M} {a : Addr} (x : Mv σ σv H σ1 σv H1) (n : H a = none) : Mv σ σv H (σ1.set i (.ow m)) (σv.set i (some (.ref a))) H1 :=
  ⟨x.ext, fun b o h nb => by
    obtain ⟨h1, n1⟩ := x.kp b o h nb
    refine ⟨h1, fun ⟨j, m', h2, h3⟩ => ?_⟩
    by_cases hj : i = j
    · subst hj
      have hl : i < σv.length := by have := (List.getElem?_eq_some_iff.mp h3).1; rw [List.length_set] at this; exact this
      rw [List.getElem?_set_self hl] at h3
      cases h3
      rw [n] at h; cases h
    · rw [List.getElem?_set_ne hj] at h2 h3
      exact n1 ⟨j, m', h2, h3⟩, x.dom⟩

/-! ### statements -/
section
variable {X : Cx} {c : DC} {a b e : Expr} {es : List Expr} {st : Stmt} {ss : List Stmt} {pos : Pos}
def sNil : DTS := fun Dn σ => Dn.nx σ
def sSeq (t u : DTS) : DTS := fun Dn σ => t { Dn with nx := u Dn } σ
theorem ss_nil : DSs X c [] sNil := fun n W tk => ⟨_, pss_nil, fun Dn σ σv H Dv _ g up q r => r.nx _ _ _ g (Mv.refl σ σv H) q⟩
theorem ss_cons {t u : DTS} (h : DSt X c st t) (h2 : DSs X c ss u) : DSs X c (st :: ss) (sSeq t u) := fun n W tk => by
  obtain ⟨tv, ps, hr⟩ := h n W tk
  obtain ⟨uv, ps2, hr2⟩ := h2 n W tk
  refine ⟨_, pss_cons ps ps2, fun Dn σ σv H Dv ex g up q r => ?_⟩
  exact hr { Dn with nx := u Dn } σ σv H _ ex g up q ⟨fun σ1 σv1 H1 g1 x1 q1 => hr2 Dn σ1 σv1 H1 Dv ex g1 (up.trans x1) q1 (r.ext x1), r.rt, r.bk, r.ct, r.rm, r.ro⟩
theorem ss_one {t : DTS} (h : DSt X c st t) : DSs X c [st] t := fun n W tk => by
  obtain ⟨tv, ps, hr⟩ := h n W tk
  exact ⟨_, pss_one ps, hr⟩
def sExpr (t : DV) : DTS := fun Dn σ => t Dn.xn σ fun _ σ1 => Dn.nx σ1
theorem st_expr {t : DV} (h : DEv X c e t) (hs : swapsWith e none pos.line X.env = pure false := by rfl) : DSt X c (.Expr e pos) (sExpr t) := fun n W tk => by
  obtain ⟨tv, pe, hr⟩ := h n W tk
  refine ⟨_, ps_expr pe hs, fun Dn σ σv H Dv ex g up q r => ?_⟩
  subst ex
  exact hr σ σv H _ _ g up q fun d σ1 v H1 g1 x1 _ q1 => r.nx _ _ _ g1 x1 q1
def sRet (t : DV) : DTS := fun Dn σ => t Dn.xn σ Dn.rt
theorem st_ret {t : DV} (h : DEv X c e t) : DSt X c (.Return (some e) pos) (sRet t) := fun n W tk => by
  obtain ⟨tv, pe, hr⟩ := h n W tk
  refine ⟨_, ps_ret pe, fun Dn σ σv H Dv ex g up q r => ?_⟩
  subst ex
  exact hr σ σv H _ _ g up q fun d σ1 v H1 g1 x1 r1 q1 => r.rt _ _ _ _ _ g1 x1 r1 q1
def sRetN : DTS := fun Dn σ => Dn.rt .none σ
theorem st_retN : DSt X c (.Return none pos) sRetN := fun n W tk => ⟨_, ps_retN, fun Dn σ σv H Dv ex g up q r => r.rt _ _ _ _ _ g (Mv.refl σ σv H) .non q⟩
/-- a new object is handed back, as it stands -/
def sRetM (t : DM) : DTS := fun Dn σ => t Dn.xn σ Dn.rm
theorem st_retM {t : DM} (h : DEm X c e t) : DSt X c (.Return (some e) pos) (sRetM t) := fun n W tk => by
  obtain ⟨tv, pe, hr⟩ := h n W tk
  refine ⟨_, ps_ret pe, fun Dn σ σv H Dv ex g up q r => ?_⟩
  subst ex
  exact hr σ σv H _ _ g up q fun m σ1 a H1 g1 x1 f1 q1 => r.rm _ _ _ _ _ g1 x1 f1.rep f1.new q1
def sRetO (i : Nat) : DTS := fun Dn σ => match σ[i]? with
  | some (.ow m) => Dn.ro i m σ
  | _ => False
theorem st_retO (i : Nat) (h : DE X c e (dName i)) : DSt X c (.Return (some e) pos) (sRetO i) := fun n W tk => by
  obtain ⟨tv, pe, hr⟩ := h n W tk
  refine ⟨_, ps_ret pe, fun Dn σ σv H Dv ex g up q r => ?_⟩
  subst ex
  unfold sRetO at q
  split at q
  · next m e1 =>
    refine hr σ σv H (fun r' σ' => r' = .s i ∧ σ'[i]? = some (.ow m) ∧ Dn.ro i m σ') _ g up ?_ fun r' σ1 v H1 g1 x1 rr q1 => ?_
    · unfold dName
      rw [e1]
      exact ⟨rfl, e1, q⟩
    · obtain ⟨rfl, e2, q2⟩ := q1
      have rr : σv[i]? = some (some v) := rr
      obtain ⟨a, h2, h3, _⟩ := g1.ow i m e2
      rw [rr] at h2
      cases h2
      exact r.ro i m a _ _ _ g1 x1 e2 rr q2
  · exact q.elim
theorem st_pass : DSt X c (.Pass pos) sNil := fun n W tk => ⟨_, ps_pass, fun Dn σ σv H Dv ex g up q r => r.nx _ _ _ g (Mv.refl σ σv H) q⟩
def sBreak : DTS := fun Dn σ => Dn.bk σ
def sCont : DTS := fun Dn σ => Dn.ct σ
theorem st_break : DSt X c (.Break pos) sBreak := fun n W tk => ⟨_, ps_break, fun Dn σ σv H Dv ex g up q r => r.bk _ _ _ g (Mv.refl σ σv H) q⟩
theorem st_cont : DSt X c (.Continue pos) sCont := fun n W tk => ⟨_, ps_continue, fun Dn σ σv H Dv ex g up q r => r.ct _ _ _ g (Mv.refl σ σv H) q⟩
def sNever : DTS := fun _ _ => False
theorem st_never : DSt X c st sNever := fun n W tk => ⟨_, ps_never, fun Dn σ σv H Dv ex g up q r => q.elim⟩
def sIf (tc : DB) (t u : DTS) : DTS := fun Dn σ => tc Dn.xn σ fun k σ1 => if k = true then t Dn σ1 else u Dn σ1
theorem st_if {cnd : Expr} {sa sb : List Stmt} {tc : DB} {t u : DTS} (hc : DBt X c cnd tc) (ha : DSs X c sa t) (hb : DSs X c sb u) : DSt X c (.If cnd sa sb pos) (sIf tc t u) := fun n W tk => by
  obtain ⟨cv, pc, hrc⟩ := hc n W tk
  obtain ⟨tv, pa, hra⟩ := ha n W tk
  obtain ⟨uv, pb, hrb⟩ := hb n W tk
  refine ⟨_, ps_if pc pa pb, fun Dn σ σv H Dv ex g up q r => ?_⟩
  have q' : tc W σ fun k σ1 => if k = true then t Dn σ1 else u Dn σ1 := by rw [← ex]; exact q
  refine hrc σ σv H _ _ g up q' fun z σ1 H1 g1 x1 q1 => ?_
  show if z = true then _ else _
  cases z with
  | true => exact hra Dn σ1 σv H1 Dv ex g1 (up.trans x1) q1 (r.ext x1)
  | false => exact hrb Dn σ1 σv H1 Dv ex g1 (up.trans x1) q1 (r.ext x1)
/-! targets: what is assigned, which slots it touches -/
abbrev GT := D → DS → (DS → Prop) → Prop
abbrev GTs := List D → DS → (DS → Prop) → Prop
def DG (X : Cx) (c : DC) (tg : Expr) (is : List Nat) (g : GT) : Prop := ∃ gv : TG, PG X tg gv ∧ ∀ (d : D) (σ : DS) (σv : VS) (v : V) (H : Hp) (Q : DS → Prop) (Qv : VS → Hp → Prop), Gd X.K c σ σv H → Rp X.K H v d → g d σ Q →
  (∀ σ' σv' , Gd X.K c σ' σv' H → Mv σ σv H σ' σv' H → σv'.length = σv.length → (∀ j, j ∉ is → σv'[j]? = σv[j]?) → Q σ' → Qv σv' H) → gv v σv H Qv
def gNm (i : Nat) : GT := fun d σ Q => Q (σ.set i (.val d))
theorem dg_name (i : Nat) {x : Str} (hN : X.N.Nodup) (hi : X.N[i]? = some x := by rfl) (hx : Loc X.env.scope x := by first | exact Or.inl rfl | exact Or.inr rfl) (hf : X.fn x = true ∨ X.env.scope.names.lookup x = some .local := by first | exact .inl rfl | exact .inr rfl | assumption) :
    DG X c (.Name x pos) [i] (gNm i) := ⟨_, pg_name (i := i) hN hi hx hf, fun d σ σv v H Q Qv g r q k => k _ _ (g.setVal r) Mv.setVal (by rw [List.length_set]) (fun j hj => List.getElem?_set_ne fun z => hj (by simp [z])) q⟩
def DGs (X : Cx) (c : DC) (tgs : List Expr) (is : List Nat) (g : GTs) : Prop := ∃ gv : TGs, PGs X tgs gv ∧ ∀ (ds : List D) (σ : DS) (σv : VS) (vs : List V) (H : Hp) (Q : DS → Prop) (Qv : VS → Hp → Prop), Gd X.K c σ σv H → Rps X.K H vs ds → g ds σ Q →
  (∀ σ' σv' , Gd X.K c σ' σv' H → Mv σ σv H σ' σv' H → σv'.length = σv.length → (∀ j, j ∉ is → σv'[j]? = σv[j]?) → Q σ' → Qv σv' H) → gv vs σv H Qv
def gsNil : GTs
  | [], σ, Q => Q σ
  | _, _, _ => False
def gsCons (g : GT) (gs : GTs) : GTs
  | d :: ds, σ, Q => g d σ fun σ1 => gs ds σ1 Q
  | [], _, _ => False
theorem dgs_nil : DGs X c [] [] gsNil := ⟨_, pgs_nil, fun ds σ σv vs H Q Qv g r q k => by
  cases r with
  | nil => exact ⟨rfl, k _ _ g (Mv.refl _ _ _) rfl (fun _ _ => rfl) q⟩
  | cons _ _ => exact q.elim⟩
theorem dgs_cons {g : GT} {gs : GTs} {is js : List Nat} (h : DG X c e is g) (hs : DGs X c es js gs) (hst : (assignEach (e :: es) X.env).map (·.2) = assign e X.env :: (assignEach es X.env).map (·.2) := by rfl) : DGs X c (e :: es) (is ++ js) (gsCons g gs) := by
  obtain ⟨gv, pg, hr⟩ := h
  obtain ⟨gsv, pgs, hrs⟩ := hs
  refine ⟨_, pgs_cons pg pgs hst, fun ds σ σv vs H Q Qv gd r q k => ?_⟩
  cases r with
  | nil => exact q.elim
  | cons r1 r2 =>
    refine ⟨_, _, rfl, hr _ σ σv _ H _ _ gd r1 q fun σ1 σv1 g1 x1 l1 c1 q1 => ?_⟩
    refine hrs _ σ1 σv1 _ H _ _ g1 r2 q1 fun σ2 σv2 g2 x2 l2 c2 q2 => k _ _ g2 (x1.trans x2) (l2.trans l1) (fun j hj => ?_) q2
    rw [List.mem_append] at hj
    exact (c2 j fun z => hj (.inr z)).trans (c1 j fun z => hj (.inl z))
def gTp (n : Nat) (gs : GTs) : GT
  | .tuple ds, σ, Q => ds.length = n ∧ gs ds σ Q
  | _, _, _ => False
theorem dg_tup {gs : GTs} {is : List Nat} {k : Nat} {p : Pos} {m : Nat} (hc : X.calm = true) (hs : DGs X c es is gs) (hn : (assignEach es X.env).length = m := by rfl) (hst : (assignEach es X.env).findIdx? (·.1) = none := by rfl) : DG X c (.Tuple es k p) is (gTp m gs) := by
  obtain ⟨gv, pg, hr⟩ := hs
  refine ⟨_, pg_tup hc pg hn hst, fun d σ σv v H Q Qv gd r q kk => ?_⟩
  cases d <;> first | exact q.elim | skip
  next ds =>
  cases r with
  | tup h1 h2 => exact ⟨_, _, rfl, SqT.un h1, h2.length.trans q.1, hr _ σ σv _ H _ _ gd h2 q.2 kk⟩
def sAsg (t : DV) (g : GT) : DTS := fun Dn σ => t Dn.xn σ fun d σ1 => g d σ1 Dn.nx
theorem st_asg {t : DV} {g : GT} {is : List Nat} {tg : Expr} (h : DEv X c e t) (hg : DG X c tg is g) (hs : swapsWithSole [tg] e pos.line X.env = pure false := by rfl) (hw : swappedStores [tg] e X.env = pure none := by rfl) (h1 : (assignEach [tg] X.env).map (·.2) = [assign tg X.env] := by rfl) : DSt X c (.Assign [tg] e pos) (sAsg t g) := fun n W tk => by
  obtain ⟨tv, pe, hr⟩ := h n W tk
  obtain ⟨gv, pg, hrg⟩ := hg
  refine ⟨_, ps_asg pe pg hs hw h1, fun Dn σ σv H Dv ex gd up q r => ?_⟩
  subst ex
  refine hr σ σv H _ _ gd up q fun d σ1 v H1 g1 x1 r1 q1 => ?_
  exact hrg d σ1 σv v H1 _ _ g1 r1 q1 fun σ2 σv2 g2 x2 _ _ q2 => r.nx _ _ _ g2 (x1.trans x2) q2
def sSet (i : Nat) (t : DV) : DTS := fun Dn σ => t Dn.xn σ fun d σ1 => Dn.nx (σ1.set i (.val d))
theorem st_set (i : Nat) {t : DV} {x : Str} {pos' : Pos} (hN : X.N.Nodup) (h : DEv X c e t) (hi : X.N[i]? = some x := by rfl) (hx : Loc X.env.scope x := by first | exact Or.inl rfl | exact Or.inr rfl) (hs : swapsWith e (some (.Name x pos')) pos.line X.env = pure false := by rfl)
    (hf : X.fn x = true ∨ X.env.scope.names.lookup x = some .local := by first | exact .inl rfl | exact .inr rfl | assumption) : DSt X c (.Assign [.Name x pos'] e pos) (sSet i t) := fun n W tk => by
  obtain ⟨tv, pe, hr⟩ := h n W tk
  refine ⟨_, ps_set (i := i) hN hi hx pe hs hf, fun Dn σ σv H Dv ex g up q r => ?_⟩
  subst ex
  exact hr σ σv H _ _ g up q fun d σ1 v H1 g1 x1 r1 q1 => r.nx _ _ _ (g1.setVal r1) (x1.trans Mv.setVal) q1
/-- a name that will hold an object of its own -/
def sSetM (i : Nat) (t : DM) : DTS := fun Dn σ => t Dn.xn σ fun m σ1 => Dn.nx (σ1.set i (.ow m))
theorem st_setM (i : Nat) {t : DM} {x : Str} {pos' : Pos} (hN : X.N.Nodup) (hp : c.pa.length ≤ i) (h : DEm X c e t) (hi : X.N[i]? = some x := by rfl) (hx : Loc X.env.scope x := by first | exact Or.inl rfl | exact Or.inr rfl) (hs : swapsWith e (some (.Name x pos')) pos.line X.env = pure false := by rfl)
    (hf : X.fn x = true ∨ X.env.scope.names.lookup x = some .local := by first | exact .inl rfl | exact .inr rfl | assumption) : DSt X c (.Assign [.Name x pos'] e pos) (sSetM i t) := fun n W tk => by
  obtain ⟨tv, pe, hr⟩ := h n W tk
  refine ⟨_, ps_set (i := i) hN hi hx pe hs hf, fun Dn σ σv H Dv ex g up q r => ?_⟩
  subst ex
  refine hr σ σv H _ _ g up q fun m σ1 a H1 g1 x1 f q1 => r.nx _ _ _ (g1.setOw f.rep f.out fun b hb => ?_) (x1.setOw f.new) q1
  rw [List.getElem?_eq_none hp] at hb
  cases hb
/-- two names from two written expressions -/
def sPar (i j : Nat) (ta tb : DV) : DTS := fun Dn σ => ta Dn.xn σ fun d σ1 => tb Dn.xn σ1 fun d2 σ2 => Dn.nx ((σ2.set i (.val d)).set j (.val d2))
theorem st_par (i j : Nat) {ta tb : DV} {x y : Str} {px py pt : Pos} {kt k2 : Nat} {pt2 : Pos} (hc : X.calm = true) (hN : X.N.Nodup) (ha : DEv X c a ta) (hb : DEv X c b tb) (hij : i ≠ j := by decide) (hi : X.N[i]? = some x := by rfl) (hj : X.N[j]? = some y := by rfl)
    (hx : X.env.scope.names.lookup x = some .local := by rfl) (hy : X.env.scope.names.lookup y = some .local := by rfl) (hw : swappedStores [.Tuple [.Name x px, .Name y py] kt pt] (.Tuple [a, b] k2 pt2) X.env = pure (some [x, y]) := by rfl)
    (hs : swapsWithSole [.Tuple [.Name x px, .Name y py] kt pt] (.Tuple [a, b] k2 pt2) pos.line X.env = pure false := by rfl) (h1 : starEach [a, b] X.env = (false, eval a X.env) :: starEach [b] X.env := by rfl) (h2 : starEach [b] X.env = (false, eval b X.env) :: starEach [] X.env := by rfl) :
    DSt X c (.Assign [.Tuple [.Name x px, .Name y py] kt pt] (.Tuple [a, b] k2 pt2) pos) (sPar i j ta tb) := fun n W tk => by
  obtain ⟨tv, pa, hra⟩ := da_cons ha (da_cons hb da_nil h2) h1 n W tk
  refine ⟨_, ps_par (i := i) (j := j) hc hN hi hj hij hx hy pa hw hs, fun Dn σ σv H Dv ex g up q r => ?_⟩
  subst ex
  refine hra σ σv H (fun ds σ2 => match ds with | [d, d2] => Dn.nx ((σ2.set i (.val d)).set j (.val d2)) | _ => False) _ g up q fun ds σ1 vs H1 g1 x1 r1 q1 => ?_
  cases r1 with
  | nil => exact q1.elim
  | cons h1 r2 =>
    cases r2 with
    | nil => exact q1.elim
    | cons h2 r3 =>
      cases r3 with
      | cons _ _ => exact q1.elim
      | nil => exact ⟨_, _, rfl, r.nx _ _ _ ((g1.setVal h1).setVal h2) ((x1.trans Mv.setVal).trans Mv.setVal) q1⟩
/-! an object in a slot is changed -/
def atSl (σ : DS) (j : Nat) (k : M → Prop) : Prop := match σ[j]? with
  | some (.ow m) => k m
  | _ => False
theorem atSl_of {σ : DS} {j : Nat} {k : M → Prop} (h : atSl σ j k) : ∃ m, σ[j]? = some (.ow m) ∧ k m := by
  unfold atSl at h
  split at h
  · next m e => exact ⟨m, e, h⟩
  · exact h.elim
/-- a list in a slot becomes another one -/
theorem chg_list {K : PySem.W.Frag} {σ : DS} {σv : VS} {H : Hp} {j : Nat} {p : Addr} {m m' : M} {xs ys : List V} {es : List D} (g : Gd K c σ σv H) (h : σ[j]? = some (.ow m)) (hv : σv[j]? = some (some (.ref p))) (hp : H p = some (.lst xs)) (e : m' = .lst es) (r : Rps K H ys es) :
    Gd K c (σ.set j (.ow m')) σv (upd H p (.lst ys)) ∧ Mv σ σv H (σ.set j (.ow m')) σv (upd H p (.lst ys)) := by
  have x : Ext H (upd H p (.lst ys)) := Ext.chg hp (stabL_none hp)
  refine ⟨g.write h hv ?_ x, .upd x (.inr ⟨j, m, h, hv⟩) fun b => owd_set fun _ _ => ⟨m, h⟩⟩
  subst e
  exact ⟨ys, upd_same, r.ext x⟩
def setM : M → D → D → (M → Prop) → Prop
  | .lst ds, .int i, d, k => match ixN ds.length i with
    | some n => k (.lst (ds.set n d))
    | none => False
  | _, _, _, _ => False
def sStore (j : Nat) (ti : DT) (te : DV) : DTS := fun Dn σ => te Dn.xn σ fun d σ1 => atSl σ1 j fun _ => ti Dn.xn σ1 fun r σ2 => vw σ2 r fun x => atSl σ2 j fun m => setM m x d fun m' => Dn.nx (σ2.set j (.ow m'))
theorem st_store (j : Nat) {ti : DT} {te : DV} {x : Str} {px ps : Pos} {i : Expr} (hi : DE X c i ti) (he : DEv X c e te) (hN : X.N[j]? = some x := by rfl) (hv : Vis X.env.scope x := by first | exact Or.inl rfl | exact Or.inr (Or.inl rfl) | exact Or.inr (Or.inr rfl))
    (hd : (x == ("__debug__" : Str)) = false := by decide +kernel) (hcd : (x == ("__classdict__" : Str)) = false := by decide +kernel)
    (pg : ∀ (to tiv : TE), PE X (.Name x px) to → PE X i tiv → PG X (.Subscript (.Name x px) i ps) (gSub to tiv rSetL) := by exact fun to tiv a b => pg_sub a b set_list)
    (hs : swapsWithSole [.Subscript (.Name x px) i ps] e pos.line X.env = pure false := by rfl) (hw : swappedStores [.Subscript (.Name x px) i ps] e X.env = pure none := by rfl) :
    DSt X c (.Assign [.Subscript (.Name x px) i ps] e pos) (sStore j ti te) := fun n W tk => by
  obtain ⟨tv, pe, hr⟩ := he n W tk
  obtain ⟨uv, pi, hri⟩ := hi n W tk
  refine ⟨_, ps_asg pe (pg _ _ (pe_var (i := j) hN hv hd hcd) pi) hs hw, fun Dn σ σv H Dv ex g up q r => ?_⟩
  subst ex
  refine hr σ σv H _ _ g up q fun d σ1 v H1 g1 x1 r1 q1 => ?_
  obtain ⟨m0, e0, q2⟩ := atSl_of q1
  obtain ⟨p, hp, _⟩ := g1.ow j m0 e0
  refine ⟨_, hp, hri σ1 σv H1 _ _ g1 (up.trans x1) q2 fun r2 σ2 v2 H2 g2 x2 rr2 q3 => ?_⟩
  obtain ⟨y, e1, q4⟩ := vw_of q3
  obtain ⟨m, e2, q5⟩ := atSl_of q4
  cases m with
  | dct _ => exact q5.elim
  | lst ds =>
    cases y <;> first | exact q5.elim | skip
    next i' =>
    cases en : ixN ds.length i' with
    | none =>
      simp only [setM, en] at q5
    | some n' =>
      simp only [setM, en] at q5
      obtain ⟨p', hp', ⟨xs, h1, h2⟩, _⟩ := g2.ow j _ e2
      rw [hp] at hp'
      cases hp'
      obtain ⟨g3, x3⟩ := chg_list (es := ds.set n' d) g2 e2 hp h1 rfl (h2.set n' (r1.ext x2.ext))
      exact ⟨p, xs, i', n', rfl, (g2.view rr2 e1).int, h1, by rw [h2.length]; exact en, r.nx _ _ _ g3 ((x1.trans x2).trans x3) q5⟩
/-- x.append(e), x a slot's list -/
def appM : M → D → (M → Prop) → Prop
  | .lst ds, d, k => ds.length < sizeLine ∧ k (.lst (ds ++ [d]))
  | _, _, _ => False
def isL : M → Prop
  | .lst _ => True
  | _ => False
def sApp (j : Nat) (te : DV) : DTS := fun Dn σ => atSl σ j fun m0 => isL m0 ∧ te Dn.xn σ fun d σ1 => atSl σ1 j fun m => appM m d fun m' => Dn.nx (σ1.set j (.ow m'))
theorem st_app (j : Nat) {te : DV} {x : Str} {px apos cpos : Pos} (he : DEv X c e te) (hN : X.N[j]? = some x := by rfl) (hv : Vis X.env.scope x := by first | exact Or.inl rfl | exact Or.inr (Or.inl rfl) | exact Or.inr (Or.inr rfl))
    (hd : (x == ("__debug__" : Str)) = false := by decide +kernel) (hcd : (x == ("__classdict__" : Str)) = false := by decide +kernel)
    (pb : ∀ (to : TE) (ta : TA), PE X (.Name x px) to → PA X [e] ta → PE X (.Call (.Attribute (.Name x px) "append" apos) [e] [] cpos) (tBM X.K "list" rAppend to ta) := by exact fun to ta a b => pe_bm PySem.F.plainAttrs_list PySem.F.slot_list_append PySem.F.type_list_append mt_append a b)
    (hst : starEach [e] X.env = (false, eval e X.env) :: starEach [] X.env := by rfl)
    (hs : swapsWith (.Call (.Attribute (.Name x px) "append" apos) [e] [] cpos) none pos.line X.env = pure false := by rfl) :
    DSt X c (.Expr (.Call (.Attribute (.Name x px) "append" apos) [e] [] cpos) pos) (sApp j te) := fun n W tk => by
  obtain ⟨tv, pa, hr⟩ := da_cons he da_nil hst n W tk
  refine ⟨_, ps_expr (pb _ _ (pe_var (i := j) hN hv hd hcd) pa) hs, fun Dn σ σv H Dv ex g up q r => ?_⟩
  subst ex
  obtain ⟨m0, e0, q2⟩ := atSl_of q
  obtain ⟨p, hp, hm0, _⟩ := g.ow j m0 e0
  obtain ⟨hl0, q2⟩ := q2
  refine ⟨_, hp, ?_, hr σ σv H (fun ds σ1 => match ds with | [d] => atSl σ1 j fun m => appM m d fun m' => Dn.nx (σ1.set j (.ow m')) | _ => False) _ g up q2 fun ds σ1 vs H1 g1 x1 r1 q3 => ?_⟩
  · -- it is a list
    cases m0 with
    | lst ds0 =>
      obtain ⟨xs, h1, _⟩ := hm0
      exact .inl ⟨rfl, xs, SqL.of h1⟩
    | dct ks => exact hl0.elim
  · cases r1 with
    | nil => exact q3.elim
    | cons h1 r2 =>
      cases r2 with
      | cons _ _ => exact q3.elim
      | nil =>
        obtain ⟨m, e2, q5⟩ := atSl_of q3
        cases m with
        | dct _ => exact q5.elim
        | lst es' =>
          obtain ⟨p', hp', ⟨xs, h3, h4⟩, _⟩ := g1.ow j _ e2
          rw [hp] at hp'
          cases hp'
          obtain ⟨g3, x3⟩ := chg_list (es := es' ++ [_]) g1 e2 hp h3 rfl (h4.append (.cons h1 .nil))
          exact ⟨p, xs, _, rfl, rfl, h3, by rw [h4.length]; exact q5.1, r.nx _ _ _ g3 (x1.trans x3) q5.2⟩
end
end DL
namespace DL
open PySem PySem.Spec PyProof.Rows L2

/-! ### what a def promises -/
abbrev DSp := List Sl → (Rt → List M → Prop) → (XD → List M → Prop) → Prop
def AR (K : PySem.W.Frag) (H : Hp) : List V → List Sl → Prop
  | [], [] => True
  | v :: vs, .val d :: as => Rp K H v d ∧ AR K H vs as
  | v :: vs, .ow m :: as => (∃ a, v = .ref a ∧ MRep K H a m) ∧ AR K H vs as
  | _, _ => False
def fpOf : List V → List Sl → List Addr
  | .ref a :: vs, .ow _ :: as => a :: fpOf vs as
  | _ :: vs, _ :: as => fpOf vs as
  | _, _ => []
def paOf : List V → List Sl → List (Option Addr)
  | .ref a :: vs, .ow _ :: as => some a :: paOf vs as
  | _ :: vs, _ :: as => none :: paOf vs as
  | _, _ => []
def noOw : List Sl → Bool
  | [] => true
  | .ow _ :: _ => false
  | _ :: as => noOw as
def own1 : List Sl → Bool
  | [] => true
  | .ow _ :: as => noOw as
  | _ :: as => own1 as
def MRs (K : PySem.W.Frag) (H : Hp) : List Addr → List M → Prop
  | [], [] => True
  | a :: as, m :: ms => MRep K H a m ∧ MRs K H as ms
  | _, _ => False
def RtRep (K : PySem.W.Frag) (H H' : Hp) (v : V) : Rt → Prop
  | .d x => Rp K H' v x
  | .m m => ∃ a, v = .ref a ∧ H a = none ∧ MRep K H' a m
/-- all but fp stays -/
def Keeps (H H' : Hp) (fp : List Addr) : Prop := ∀ a o, H a = some o → a ∉ fp → H' a = some o
def toSp (K : PySem.W.Frag) (S : DSp) : Sp := fun vs H Q E => ∃ as Q0 E0, AR K H vs as ∧ own1 as = true ∧ S as Q0 E0 ∧
  (∀ r ms v H', Q0 r ms → Keeps H H' (fpOf vs as) → MRs K H' (fpOf vs as) ms → RtRep K H H' v r → Q v H') ∧
  (∀ x ms cls d H', E0 x ms → Keeps H H' (fpOf vs as) → MRs K H' (fpOf vs as) ms → ExcRep K H' cls d x → E cls d H')
def outM : List Sl → DS → Option (List M)
  | [], _ => some []
  | .ow _ :: as, .ow m :: σ => (outM as σ).map (m :: ·)
  | .ow _ :: _, _ => none
  | _ :: as, _ :: σ => outM as σ
  | _ :: _, [] => none

section
variable {K : PySem.W.Frag} {H H' : Hp}
theorem AR.length : ∀ {vs : List V} {as : List Sl}, AR K H vs as → vs.length = as.length
  | [], [], _ => rfl
  | _ :: vs, .val _ :: as, h => congrArg (· + 1) (AR.length h.2)
  | _ :: vs, .ow _ :: as, h => congrArg (· + 1) (AR.length h.2)
  | [], _ :: _, h => h.elim
  | _ :: _, [], h => h.elim
  | _ :: _, .no :: _, h => h.elim
theorem AR.val : ∀ {vs : List V} {as : List Sl} {i : Nat} {d : D}, AR K H vs as → as[i]? = some (.val d) → ∃ v, vs[i]? = some v ∧ Rp K H v d
  | [], [], _, _, _, e => by simp at e
  | v :: vs, .val _ :: as, 0, d, h, e => by simp at e; subst e; exact ⟨v, rfl, h.1⟩
  | v :: vs, .val _ :: as, i + 1, d, h, e => by obtain ⟨w, h1, h2⟩ := AR.val (i := i) (d := d) h.2 (by simpa using e); exact ⟨w, by simpa using h1, h2⟩
  | v :: vs, .ow _ :: as, 0, d, h, e => by simp at e
  | v :: vs, .ow _ :: as, i + 1, d, h, e => by obtain ⟨w, h1, h2⟩ := AR.val (i := i) (d := d) h.2 (by simpa using e); exact ⟨w, by simpa using h1, h2⟩
  | [], _ :: _, _, _, h, _ => h.elim
  | _ :: _, [], _, _, h, _ => h.elim
  | _ :: _, .no :: _, _, _, h, _ => h.elim
theorem AR.ow : ∀ {vs : List V} {as : List Sl} {i : Nat} {m : M}, AR K H vs as → as[i]? = some (.ow m) → ∃ a, vs[i]? = some (.ref a) ∧ MRep K H a m ∧ (paOf vs as)[i]? = some (some a) ∧ a ∈ fpOf vs as
  | [], [], _, _, _, e => by simp at e
  | v :: vs, .val _ :: as, 0, m, h, e => by simp at e
  | v :: vs, .val _ :: as, i + 1, m, h, e => by
    obtain ⟨w, h1, h2, h3, h4⟩ := AR.ow (i := i) (m := m) h.2 (by simpa using e)
    exact ⟨w, by simpa using h1, h2, by cases v <;> simpa [paOf] using h3, by cases v <;> simpa [fpOf] using h4⟩
  | v :: vs, .ow _ :: as, 0, m, h, e => by
    simp at e; subst e
    obtain ⟨⟨a, rfl, h1⟩, _⟩ := h
    exact ⟨a, rfl, h1, rfl, List.mem_cons_self⟩
  | v :: vs, .ow _ :: as, i + 1, m, h, e => by
    obtain ⟨⟨a, rfl, h1⟩, hr⟩ := h
    obtain ⟨w, h1, h2, h3, h4⟩ := AR.ow (i := i) (m := m) hr (by simpa using e)
    exact ⟨w, by simpa using h1, h2, by simpa [paOf] using h3, List.mem_cons_of_mem _ h4⟩
  | [], _ :: _, _, _, h, _ => h.elim
  | _ :: _, [], _, _, h, _ => h.elim
  | _ :: _, .no :: _, _, _, h, _ => h.elim
theorem fpOf_mem : ∀ {vs : List V} {as : List Sl} {a : Addr}, AR K H vs as → a ∈ fpOf vs as → ∃ (i : Nat) (m : M), as[i]? = some (.ow m) ∧ vs[i]? = some (.ref a)
  | [], [], _, _, e => by simp [fpOf] at e
  | v :: vs, .val _ :: as, a, h, e => by
    obtain ⟨i, m, h1, h2⟩ := fpOf_mem h.2 (by cases v <;> simpa [fpOf] using e)
    exact ⟨i + 1, m, by simpa using h1, by simpa using h2⟩
  | v :: vs, .ow m :: as, a, h, e => by
    obtain ⟨⟨b, rfl, h1⟩, hr⟩ := h
    rcases List.mem_cons.mp e with rfl | e
    · exact ⟨0, m, rfl, rfl⟩
    · obtain ⟨i, m, h1, h2⟩ := fpOf_mem hr e
      exact ⟨i + 1, m, by simpa using h1, by simpa using h2⟩
  | [], _ :: _, _, h, _ => h.elim
  | _ :: _, [], _, h, _ => h.elim
  | _ :: _, .no :: _, _, h, _ => h.elim
theorem noOw_at : ∀ {as : List Sl} {i : Nat} {m : M}, noOw as = true → as[i]? ≠ some (.ow m)
  | [], i, m, _, e => by simp at e
  | .ow _ :: as, i, m, h, e => by simp [noOw] at h
  | .no :: as, 0, m, h, e => by simp at e
  | .val _ :: as, 0, m, h, e => by simp at e
  | .no :: as, i + 1, m, h, e => noOw_at (as := as) (i := i) (m := m) h (by simpa using e)
  | .val _ :: as, i + 1, m, h, e => noOw_at (as := as) (i := i) (m := m) h (by simpa using e)
theorem own1_at : ∀ {as : List Sl} {i j : Nat} {m m' : M}, own1 as = true → as[i]? = some (.ow m) → as[j]? = some (.ow m') → i = j
  | [], i, j, m, m', _, e, _ => by simp at e
  | .ow _ :: as, 0, 0, m, m', h, _, _ => rfl
  | .ow _ :: as, 0, j + 1, m, m', h, _, e => absurd (by simpa using e) (noOw_at (as := as) (i := j) (m := m') h)
  | .ow _ :: as, i + 1, _, m, m', h, e, _ => absurd (by simpa using e) (noOw_at (as := as) (i := i) (m := m) h)
  | .no :: as, 0, _, m, m', h, e, _ => by simp at e
  | .no :: as, i + 1, 0, m, m', h, _, e => by simp at e
  | .no :: as, i + 1, j + 1, m, m', h, e, e' => congrArg (· + 1) (own1_at (as := as) h (by simpa using e) (by simpa using e'))
  | .val _ :: as, 0, _, m, m', h, e, _ => by simp at e
  | .val _ :: as, i + 1, 0, m, m', h, _, e => by simp at e
  | .val _ :: as, i + 1, j + 1, m, m', h, e, e' => congrArg (· + 1) (own1_at (as := as) h (by simpa using e) (by simpa using e'))
theorem outM_rep : ∀ {vs : List V} {as : List Sl} {σ : DS} {ms : List M}, (∀ (i : Nat) (m : M) (b : Addr), σ[i]? = some (.ow m) → (paOf vs as)[i]? = some (some b) → MRep K H b m) → vs.length = as.length →
    (∀ (i : Nat) (m : M), as[i]? = some (.ow m) → ∃ a, vs[i]? = some (.ref a)) → outM as σ = some ms → MRs K H (fpOf vs as) ms
  | [], [], σ, ms, _, _, _, e => by simp [outM] at e; subst e; trivial
  | [], _ :: _, σ, ms, _, l, _, _ => by simp at l
  | _ :: _, [], σ, ms, _, l, _, _ => by simp at l
  | v :: vs, .ow m0 :: as, σ, ms, h, l, hv, e => by
    obtain ⟨a, ha⟩ := hv 0 m0 rfl
    simp at ha; subst ha
    cases σ with
    | nil => simp [outM] at e
    | cons z σ =>
      cases z with
      | no => simp [outM] at e
      | val _ => simp [outM] at e
      | ow m =>
        simp only [outM, Option.map_eq_some_iff] at e
        obtain ⟨ms', e1, rfl⟩ := e
        exact ⟨h 0 m a rfl rfl, outM_rep (vs := vs) (as := as) (fun i m b h1 h2 => h (i + 1) m b (by simpa using h1) (by simpa [paOf] using h2)) (by simpa using l) (fun i m h1 => by obtain ⟨a, h2⟩ := hv (i + 1) m (by simpa using h1); exact ⟨a, by simpa using h2⟩) e1⟩
  | v :: vs, .val d :: as, σ, ms, h, l, hv, e => by
    cases σ with
    | nil => simp [outM] at e
    | cons z σ =>
      have e1 : outM as σ = some ms := by cases z <;> simpa [outM] using e
      have := outM_rep (vs := vs) (as := as) (fun i m b h1 h2 => h (i + 1) m b (by simpa using h1) (by cases v <;> simpa [paOf] using h2)) (by simpa using l) (fun i m h1 => by obtain ⟨a, h2⟩ := hv (i + 1) m (by simpa using h1); exact ⟨a, by simpa using h2⟩) e1
      cases v <;> simpa [fpOf] using this
  | v :: vs, .no :: as, σ, ms, h, l, hv, e => by
    cases σ with
    | nil => simp [outM] at e
    | cons z σ =>
      have e1 : outM as σ = some ms := by cases z <;> simpa [outM] using e
      have := outM_rep (vs := vs) (as := as) (fun i m b h1 h2 => h (i + 1) m b (by simpa using h1) (by cases v <;> simpa [paOf] using h2)) (by simpa using l) (fun i m h1 => by obtain ⟨a, h2⟩ := hv (i + 1) m (by simpa using h1); exact ⟨a, by simpa using h2⟩) e1
      cases v <;> simpa [fpOf] using this
theorem paOf_length : ∀ {vs : List V} {as : List Sl}, vs.length = as.length → (paOf vs as).length = as.length
  | [], [], _ => rfl
  | [], _ :: _, l => by simp at l
  | _ :: _, [], l => by simp at l
  | v :: vs, z :: as, l => by
    have := paOf_length (vs := vs) (as := as) (by simpa using l)
    cases v <;> cases z <;> simp [paOf, this]
end

/-! ### room, base -/
structure RoomG (k : Nat) (A : Around) : Prop where
  room : Room k A
  gd : A.guards = some []
  py : A.depth + 3 * k + 105 < recursionLimit
theorem RoomG.mono {j k : Nat} {A : Around} (r : RoomG k A) (h : j ≤ k) : RoomG j A := ⟨r.room.mono h, r.gd, by have := r.py; omega⟩
theorem RoomG.deeper {k : Nat} {A : Around} (r : RoomG (k + 1) A) (env : Env) : RoomG k (A.deeper env) := ⟨r.room.deeper env, r.gd, by have := r.py; show A.depth + 1 + 3 * k + 105 < _; omega⟩
structure BaseG (P : Program) (base : Heap) : Prop where
  seer : base.NoSeer
  tree : P.given.tree = none
  dig : ∃ mc, base.Ns cStatics mc ∧ mc "sys.int_max_str_digits" = none

structure GFn (P : Program) (w : World) (K : PySem.W.Frag) (mg : Str → Option Value) (base : Heap) (k : Nat) (f : Addr) (fd : FuncData) (ps : List Str) (S : DSp) : Prop where
  run : ∀ (A : Around) (outer : List Env) (s : Shared) (H : Hp) (args : Args) (us : List Value) (vs : List V) (Q : VK) (E : XK), RoomG k A → Env0 P w K mg base A outer s H → BindsTo s fd args (ps.zip us) → Vals vs us → vs.length = ps.length → toSp K S vs H Q E →
    codeAny (model P w) A (.call (.ref f) args) (CR (L2.CX P w) outer P w H s Q E) s
theorem GFn.mono {P : Program} {w : World} {K : PySem.W.Frag} {mg : Str → Option Value} {base : Heap} {j k : Nat} {f : Addr} {fd : FuncData} {ps : List Str} {S : DSp} (F : GFn P w K mg base j f fd ps S) (h : j ≤ k) : GFn P w K mg base k f fd ps S :=
  ⟨fun A outer s H args us vs Q E hr => F.run A outer s H args us vs Q E (hr.mono h)⟩

/-- the entry's slots -/
def slots0 (n : Nat) (as : List Sl) : DS := as ++ List.replicate (n - as.length) .no
section
variable {P : Program} {w : World} {K : PySem.W.Frag} {mg : Str → Option Value} {base : Heap} {k : Nat} {f : Addr} {name qual : Str} {params : Arguments} {body : List Stmt} {scope : Scope} {dV kV doc pm cdv ct oc : Value} {an od : Option Addr} {osl : Array (Option Value)} {N ps : List Str}
theorem gd_start {H : Hp} {vs : List V} {as : List Sl} (ar : AR K H vs as) (o1 : own1 as = true) (hl : vs.length ≤ N.length) : Gd K ⟨paOf vs as⟩ (slots0 N.length as) (L2.start N vs) H := by
  have l := ar.length
  have at_ : ∀ {i : Nat} {z : Sl}, z ≠ .no → (slots0 N.length as)[i]? = some z → as[i]? = some z ∧ ∀ v, vs[i]? = some v → (L2.start N vs)[i]? = some (some v) := fun {i z} hz e => by
    unfold slots0 at e
    by_cases h : i < as.length
    · rw [List.getElem?_append_left h] at e
      refine ⟨e, fun v hv => ?_⟩
      unfold L2.start
      rw [List.getElem?_append_left (by rw [List.length_map, l]; exact h), List.getElem?_map, hv]
      rfl
    · rw [List.getElem?_append_right (by omega)] at e
      exact absurd (List.eq_of_mem_replicate (List.mem_of_getElem? e)) hz
  refine ⟨?_, fun i d e => ?_, fun i m e => ?_, fun i j m m' a h1 h2 _ _ => ?_⟩
  · unfold slots0 L2.start
    rw [List.length_append, List.length_append, List.length_replicate, List.length_replicate, List.length_map]
    omega
  · obtain ⟨h1, h2⟩ := at_ (by intro z; cases z) e
    obtain ⟨v, h3, h4⟩ := ar.val h1
    exact ⟨v, h2 v h3, h4⟩
  · obtain ⟨h1, h2⟩ := at_ (by intro z; cases z) e
    obtain ⟨a, h3, h4, h5, _⟩ := ar.ow h1
    exact ⟨a, h2 _ h3, h4, fun b hb => by rw [show (DC.mk (paOf vs as)).pa = paOf vs as from rfl, h5] at hb; cases hb; rfl⟩
  · exact own1_at o1 (at_ (by intro z; cases z) h1).1 (at_ (by intro z; cases z) h2).1
/-- the ends of a def's body -/
abbrev endsOf (ps : List Str) (as : List Sl) (Q : Rt → List M → Prop) (E : XD → List M → Prop) : DEnds :=
  { nx := fun σ => ∃ ms, outM as σ = some ms ∧ Q (.d .none) ms, rt := fun d σ => ∃ ms, outM as σ = some ms ∧ Q (.d d) ms, xn := fun x σ => ∃ ms, outM as σ = some ms ∧ E x ms,
    rm := fun m σ => noOw as = true ∧ Q (.m m) [], ro := fun i m σ => ps.length ≤ i ∧ ∃ ms, outM as σ = some ms ∧ Q (.m m) ms }
theorem outM_ow : ∀ {as : List Sl} {σ : DS} {ms : List M} {i : Nat} {m : M}, outM as σ = some ms → as[i]? = some (.ow m) → ∃ m', σ[i]? = some (.ow m')
  | [], _, _, _, _, _, h => by simp at h
  | .ow _ :: as, .ow m :: σ, _, 0, _, _, _ => ⟨m, rfl⟩
  | .ow _ :: as, .ow _ :: σ, ms, i + 1, m, e, h => by
    unfold outM at e
    cases q : outM as σ with
    | none => rw [q] at e; cases e
    | some ms' =>
      obtain ⟨m', h'⟩ := outM_ow (i := i) (m := m) q (by simpa using h)
      exact ⟨m', by simpa using h'⟩
  | .ow _ :: _, [], _, _, _, e, _ => by cases e
  | .ow _ :: _, .no :: _, _, _, _, e, _ => by cases e
  | .ow _ :: _, .val _ :: _, _, _, _, e, _ => by cases e
  | .no :: as, z :: σ, ms, i, m, e, h => by
    cases i with
    | zero => simp at h
    | succ i =>
      obtain ⟨m', h'⟩ := outM_ow (as := as) (σ := σ) (i := i) (m := m) (by simpa [outM] using e) (by simpa using h)
      exact ⟨m', by simpa using h'⟩
  | .val _ :: as, z :: σ, ms, i, m, e, h => by
    cases i with
    | zero => simp at h
    | succ i =>
      obtain ⟨m', h'⟩ := outM_ow (as := as) (σ := σ) (i := i) (m := m) (by simpa [outM] using e) (by simpa using h)
      exact ⟨m', by simpa using h'⟩
  | .no :: _, [], _, _, _, e, _ => by cases e
  | .val _ :: _, [], _, _, _, e, _ => by cases e
/-- a def of the text, by its body's combinators t: der that they stand for it, read that they do what is promised -/
theorem gfn_of {S : DSp} (lk : K.lookup f = some ⟨oc, od, .func (PySem.W.fnOf name qual params body scope dV kV doc pm an cdv ct), osl⟩) (hcd : PySem.W.codeIn K cdv qual = true) (Sc : FnScope N ps scope)
    (der : ∀ (A : Around) (outer : List Env) (s : Shared) (H : Hp) (E : XK) (c : DC), RoomG k (A.deeper (envOfC qual scope s.heap.objs.size f cdv)) → c.pa.length ≤ ps.length → ∃ t, DSs (cxOf (L2.CX P w) P w K mg base N qual scope f cdv A outer s H E) c body t ∧
      ∀ as Q E, as.length = ps.length → S as Q E → t (endsOf ps as Q E) (slots0 N.length as)) :
    GFn P w K mg base (k + 1) f (PySem.W.fnOf name qual params body scope dV kV doc pm an cdv ct) ps S := by
  refine ⟨fun A outer s H args us vs Q E hr e0 hb r hl hsp => ?_⟩
  have kin : K.In s.heap := e0.mod.kin.keeps fun b o e => (e0.bs b o e).1
  have lim : s.heap.NoLimit := e0.mod.nolimit.keeps fun b o e => (e0.bs b o e).1
  have pl : ps.length ≤ N.length := by have := congrArg List.length Sc.pre; rw [List.length_take] at this; omega
  refine codeAny_call_function hr.room.depth (kin _ _ lk) rfl Sc.co Sc.gen rfl (PySem.W.codeRec_of kin hcd) (hb _ _ _ _ ?_)
  refine wpAny_newFunctionEnv_cells Sc.kind (fun y hy => ?_) fun env he s1 x => ?_
  · obtain ⟨nm, v⟩ := y
    rcases Sc.par nm (List.of_mem_zip hy).1 with q | q
    · exact .inl q
    · exact .inr ⟨q, PySem.W.cellsFrom_some _ _ _ (.inl q)⟩
  subst he
  refine ⟨lim.keeps x.toInCall.keep, codeAny_func ?_⟩
  obtain ⟨as, Q0, E0, ar, o1, hS, hQ, hE⟩ := hsp
  have la : as.length = ps.length := ar.length.symm.trans hl
  obtain ⟨X, hX⟩ : ∃ X, X = cxOf (L2.CX P w) P w K mg base N qual scope f cdv A outer s H E := ⟨_, rfl⟩
  have I := inv_start (CX := L2.CX P w) (cd := cdv) (f := f) (qual := qual) (E := E) Sc hr.room.hd e0 hl r x
  have g0 := gd_start (N := N) ar o1 (by omega)
  -- behind the body
  have fin : ∀ {σ : DS} {σv : VS} {H' : Hp} {ms : List M}, Gd K ⟨paOf vs as⟩ σ σv H' → Mv (slots0 N.length as) (L2.start N vs) H σ σv H' → outM as σ = some ms → Keeps H H' (fpOf vs as) ∧ MRs K H' (fpOf vs as) ms := fun {σ σv H' ms} g m e => by
    refine ⟨fun a o h n => (m.kp a o h fun ⟨i, mm, h1, h2⟩ => n ?_).1, outM_rep (fun i mm b h1 h2 => ?_) ar.length (fun i mm h => let ⟨a, h1, _⟩ := ar.ow h; ⟨a, h1⟩) e⟩
    · obtain ⟨b, h3, _, h4⟩ := g0.ow i mm h1
      rw [h2] at h3
      cases h3
      unfold slots0 at h1
      by_cases hi : i < as.length
      · rw [List.getElem?_append_left hi] at h1
        obtain ⟨b, h5, _, _, h6⟩ := ar.ow h1
        have h7 : (L2.start N vs)[i]? = some (some (.ref b)) := by
          unfold L2.start
          rw [List.getElem?_append_left (by rw [List.length_map, ar.length]; exact hi), List.getElem?_map, h5]
          rfl
        rw [h2] at h7
        cases h7
        exact h6
      · rw [List.getElem?_append_right (by omega)] at h1
        have := List.eq_of_mem_replicate (List.mem_of_getElem? h1)
        cases this
    · obtain ⟨a, h3, h4, h5⟩ := g.ow i mm h1
      rw [← h5 b h2]
      exact h4
  have tk0 : Takes (cxOf (L2.CX P w) P w K mg base N qual scope f cdv A outer s H E) (fun cls d _ H => E cls d H) := takes_of rfl rfl rfl rfl
  obtain ⟨t, ht0, read⟩ := der A outer s H E ⟨paOf vs as⟩ (hr.deeper _) (by rw [show (DC.mk (paOf vs as)).pa = paOf vs as from rfl, paOf_length ar.length, la]; exact Nat.le_refl _)
  obtain ⟨tv, ht, hq⟩ := ht0 ⟨slots0 N.length as, L2.start N vs, H⟩ (fun x σ => ∃ ms, outM as σ = some ms ∧ E0 x ms) (Takes.imp tk0 fun cls d σv H' ⟨σ, x, g, m, er, ms, e1, q⟩ => let ⟨h1, h2⟩ := fin g m e1; hE x ms cls d H' q h1 h2 er)
  refine wpAny_mono (ht.run [] s1 (L2.start N vs) H { nx := fun _ H' => Q .non H', rt := Q } I ?_) (fun fl s' hs => ?_) fun e s' hs => hs
  · refine hq _ (slots0 N.length as) (L2.start N vs) H _ rfl g0 (Mv.refl _ _ _) (read as _ _ la hS) ⟨fun σ σv H' g m ⟨ms, e1, q⟩ => ?_, fun d σ σv v H' g m rr ⟨ms, e1, q⟩ => ?_, fun _ _ _ _ _ q => q.elim, fun _ _ _ _ _ q => q.elim, fun m a σ σv H' g mv rr n q => ?_, fun i m a σ σv H' g mv e1 e2 q => ?_⟩
    · obtain ⟨h1, h2⟩ := fin g m e1
      exact hQ _ ms .non H' q h1 h2 .non
    · obtain ⟨h1, h2⟩ := fin g m e1
      exact hQ _ ms v H' q h1 h2 rr
    · obtain ⟨q1, q2⟩ := q
      have nf : ∀ b, b ∉ fpOf vs as := fun b hb => by
        obtain ⟨i, mm, h1, _⟩ := fpOf_mem ar hb
        exact noOw_at q1 h1
      have z : fpOf vs as = [] := List.eq_nil_iff_forall_not_mem.mpr nf
      refine hQ (.m m) [] _ H' q2 (fun b o h _ => (mv.kp b o h fun ⟨i, mm, h1, h2⟩ => ?_).1) (by rw [z]; trivial) ⟨a, rfl, n, rr⟩
      unfold slots0 at h1
      by_cases hi : i < as.length
      · rw [List.getElem?_append_left hi] at h1
        exact noOw_at q1 h1
      · rw [List.getElem?_append_right (by omega)] at h1
        have := List.eq_of_mem_replicate (List.mem_of_getElem? h1)
        cases this
    · obtain ⟨hi, ms, h0, q⟩ := q
      obtain ⟨h1, h2⟩ := fin g mv h0
      obtain ⟨b, e3, rr, _⟩ := g.ow i m e1
      rw [e2] at e3
      cases e3
      refine hQ (.m m) ms _ H' q h1 h2 ⟨a, rfl, ?_, rr⟩
      cases q2 : H a with
      | none => rfl
      | some o =>
        exfalso
        have own : Owd (slots0 N.length as) (L2.start N vs) a := Classical.byContradiction fun nn => (mv.kp a o q2 nn).2 ⟨i, m, e1, e2⟩
        obtain ⟨j, mj, h3, h4⟩ := own
        unfold slots0 at h3
        by_cases hj : j < as.length
        · rw [List.getElem?_append_left hj] at h3
          obtain ⟨c, h5, _, h7, _⟩ := ar.ow h3
          have h6 : (L2.start N vs)[j]? = some (some (.ref c)) := by
            unfold L2.start
            rw [List.getElem?_append_left (by rw [List.length_map, ar.length]; exact hj), List.getElem?_map, h5]
            rfl
          rw [h4] at h6
          cases h6
          obtain ⟨m', h8⟩ := outM_ow h0 h3
          obtain ⟨d, h9, _, h10⟩ := g.ow j m' h8
          have := h10 a h7
          subst this
          have := g.apart i j m m' d e1 h8 e2 h9
          omega
        · rw [List.getElem?_append_right (by omega)] at h3
          have := List.eq_of_mem_replicate (List.mem_of_getElem? h3)
          cases this
  · cases fl with
    | ret u =>
      obtain ⟨v, σ', H', J, rv, q⟩ := hs
      exact ⟨v, H', J.os, J.bare, J.base, J.hok, rv, q⟩
    | next =>
      obtain ⟨σ', H', J, q⟩ := hs
      exact ⟨.non, H', J.os, J.bare, J.base, J.hok, rfl, q⟩
    | brk =>
      obtain ⟨_, _, _, q⟩ := hs
      exact q.elim
    | cont =>
      obtain ⟨_, _, _, q⟩ := hs
      exact q.elim
end
end DL
namespace DL
open PySem PySem.Spec PyProof.Rows L2

/-! ### arguments of a def's call -/
inductive Ag where
  | v (d : D)
  | s (i : Nat)
inductive AgR (K : PySem.W.Frag) (σv : VS) (H : Hp) : List V → List Ag → Prop
  | nil : AgR K σv H [] []
  | v {v : V} {vs : List V} {d : D} {as : List Ag} : Rp K H v d → AgR K σv H vs as → AgR K σv H (v :: vs) (.v d :: as)
  | s {v : V} {vs : List V} {i : Nat} {as : List Ag} : σv[i]? = some (some v) → AgR K σv H vs as → AgR K σv H (v :: vs) (.s i :: as)
abbrev DAg := DK → DS → (List Ag → DS → Prop) → Prop
def argsOf (σ : DS) : List Ag → (List Sl → Prop) → Prop
  | [], k => k []
  | .v d :: r, k => argsOf σ r fun as => k (.val d :: as)
  | .s i :: r, k => atSl σ i fun m => argsOf σ r fun as => k (.ow m :: as)
def back (σ : DS) : List Ag → List M → DS
  | [], _ => σ
  | .v _ :: r, ms => back σ r ms
  | .s i :: _, m :: _ => σ.set i (.ow m)
  | .s _ :: _, [] => σ
section
variable {K : PySem.W.Frag} {c : DC} {σ : DS} {σv : VS} {H H' : Hp}
theorem Gd.frame1 {i : Nat} {a : Addr} {m m' : M} (g : Gd K c σ σv H) (h : σ[i]? = some (.ow m)) (ha : σv[i]? = some (some (.ref a))) (k : Keeps H H' [a]) (hm : MRep K H' a m') :
    Gd K c (σ.set i (.ow m')) σv H' ∧ Mv σ σv H (σ.set i (.ow m')) σv H' ∧ (∀ b, Owd (σ.set i (.ow m')) σv b → Owd σ σv b) := by
  obtain ⟨b, hb, hr, hp⟩ := g.ow i m h
  rw [ha] at hb
  cases hb
  have e : Ext H H' := fun b o q => by
    have q1 := stab_some q
    have nb : b ≠ a := fun z => by
      subst z
      obtain ⟨o', _, q2⟩ := hr.ex
      rw [q2] at q; cases q
    have q2 := k b o q1 (by simp [nb])
    unfold stab at q ⊢
    rw [q1] at q
    rw [q2]
    exact q
  have hl : i < σ.length := (List.getElem?_eq_some_iff.mp h).1
  refine ⟨⟨by rw [List.length_set, g.len], fun j d h1 => ?_, fun j m1 h1 => ?_, fun j l m1 m2 b h1 h2 h3 h4 => ?_⟩, ⟨e, fun b o q n => ?_, fun b o q => ?_⟩, fun b => owd_set fun _ _ => ⟨m, h⟩⟩
  · by_cases hj : i = j
    · subst hj; rw [List.getElem?_set_self hl] at h1; cases h1
    · rw [List.getElem?_set_ne hj] at h1
      obtain ⟨v, q1, q2⟩ := g.val j d h1
      exact ⟨v, q1, q2.ext e⟩
  · by_cases hj : i = j
    · subst hj; rw [List.getElem?_set_self hl] at h1; cases h1
      exact ⟨a, ha, hm, hp⟩
    · rw [List.getElem?_set_ne hj] at h1
      obtain ⟨b, q1, q2, q3⟩ := g.ow j m1 h1
      have nb : b ≠ a := fun z => by subst z; exact hj (g.apart i j m m1 b h h1 ha q1)
      obtain ⟨o, q4, _⟩ := q2.ex
      exact ⟨b, q1, q2.move e ((k b o q4 (by simp [nb])).trans q4.symm), q3⟩
  · have old : ∀ {l : Nat} {m1 : M}, (σ.set i (.ow m'))[l]? = some (.ow m1) → ∃ m2, σ[l]? = some (.ow m2) := fun {l m1} q => by
      by_cases hj : i = l
      · subst hj; exact ⟨m, h⟩
      · rw [List.getElem?_set_ne hj] at q; exact ⟨m1, q⟩
    obtain ⟨n1, q1⟩ := old h1
    obtain ⟨n2, q2⟩ := old h2
    exact g.apart j l n1 n2 b q1 q2 h3 h4
  · have nb : b ≠ a := fun z => by subst z; exact n ⟨i, m, h, ha⟩
    exact ⟨k b o q (by simp [nb]), fun z => n (owd_set (fun _ _ => ⟨m, h⟩) z)⟩
  · by_cases z : b = a
    · subst z; obtain ⟨o', q2, _⟩ := hm.ex; exact ⟨o', q2⟩
    · exact ⟨o, k b o q (by simp [z])⟩
theorem args_ar (g : Gd K c σ σv H) : ∀ {ags : List Ag} {vs : List V} {k : List Sl → Prop}, AgR K σv H vs ags → argsOf σ ags k → ∃ as, AR K H vs as ∧ k as ∧
    (∀ ms H', own1 as = true → Keeps H H' (fpOf vs as) → MRs K H' (fpOf vs as) ms → Gd K c (back σ ags ms) σv H' ∧ Mv σ σv H (back σ ags ms) σv H' ∧ (∀ b, Owd (back σ ags ms) σv b → Owd σ σv b)) ∧
    (noOw as = true → fpOf vs as = [] ∧ ∀ ms, back σ ags ms = σ) := by
  intro ags vs k r
  induction r generalizing k with
  | nil => exact fun h => ⟨[], trivial, h, fun ms H' _ hk _ => ⟨g.same fun a o q => hk a o q (by simp [fpOf]), Mv.same fun a o q => hk a o q (by simp [fpOf]), fun b h => h⟩, fun _ => ⟨rfl, fun _ => rfl⟩⟩
  | @v v vs d as r1 r2 ih =>
    intro h
    obtain ⟨as', h1, h2, h3, h4⟩ := ih h
    have e : fpOf (v :: vs) (.val d :: as') = fpOf vs as' := by cases v <;> rfl
    exact ⟨.val d :: as', ⟨r1, h1⟩, h2, fun ms H' o1 hk hm => h3 ms H' o1 (by rw [e] at hk; exact hk) (by rw [e] at hm; exact hm), fun hn => ⟨e.trans (h4 hn).1, fun ms => (h4 hn).2 ms⟩⟩
  | @s v vs i as r1 r2 ih =>
    intro h
    obtain ⟨m, e1, h1⟩ := atSl_of h
    obtain ⟨as', h2, h3, _, h5⟩ := ih h1
    obtain ⟨a, q1, q2, _⟩ := g.ow i m e1
    rw [r1] at q1
    cases q1
    refine ⟨.ow m :: as', ⟨⟨a, rfl, q2⟩, h2⟩, h3, fun ms H' o1 hk hm => ?_, fun hn => by simp [noOw] at hn⟩
    have e2 : fpOf (.ref a :: vs) (.ow m :: as') = [a] := by
      show a :: fpOf vs as' = [a]
      rw [(h5 o1).1]
    rw [e2] at hk hm
    cases ms with
    | nil => exact hm.elim
    | cons m' ms => exact g.frame1 e1 r1 hk hm.1
end
section
variable {X : Cx} {c : DC} {e : Expr} {es : List Expr} {pos : Pos}
def DAgs (X : Cx) (c : DC) (es : List Expr) (t : DAg) : Prop := ∀ n W, TK X c n W → ∃ tv, PA X es tv ∧ ∀ σ σv H Q Qv, Gd X.K c σ σv H → Up n σ σv H → t W σ Q →
  (∀ ags σ' vs H', Gd X.K c σ' σv H' → Mv σ σv H σ' σv H' → AgR X.K σv H' vs ags → Q ags σ' → Qv vs H') → tv σv H Qv
theorem AgR.ext {K : PySem.W.Frag} {σv : VS} {H H' : Hp} {vs : List V} {as : List Ag} (x : Ext H H') (r : AgR K σv H vs as) : AgR K σv H' vs as := by
  induction r with
  | nil => exact .nil
  | v a _ ih => exact .v (a.ext x) ih
  | s a _ ih => exact .s a ih
def agNil : DAg := fun _ σ Q => Q [] σ
def agV (t : DV) (u : DAg) : DAg := fun W σ Q => t W σ fun d σ1 => u W σ1 fun ds σ2 => Q (.v d :: ds) σ2
def agS (i : Nat) (u : DAg) : DAg := fun W σ Q => atSl σ i fun _ => u W σ fun ds σ2 => Q (.s i :: ds) σ2
theorem ag_nil : DAgs X c [] agNil := fun n W tk => ⟨_, pa_nil, fun σ σv H Q Qv g up q k => k _ _ _ _ g (Mv.refl σ σv H) .nil q⟩
theorem ag_v {t : DV} {u : DAg} (h : DEv X c e t) (hs : DAgs X c es u) (hst : starEach (e :: es) X.env = (false, eval e X.env) :: starEach es X.env := by rfl) : DAgs X c (e :: es) (agV t u) := fun n W tk => by
  obtain ⟨tv, pe, hr⟩ := h n W tk
  obtain ⟨uv, pa, hr2⟩ := hs n W tk
  refine ⟨_, pa_cons pe pa hst, fun σ σv H Q Qv g up q k => ?_⟩
  refine hr σ σv H _ _ g up q fun d σ1 v H1 g1 x1 r1 q1 => ?_
  exact hr2 σ1 σv H1 _ _ g1 (up.trans x1) q1 fun ds σ2 vs H2 g2 x2 r2 q2 => k _ _ _ _ g2 (x1.trans x2) (.v (r1.ext x2.ext) r2) q2
theorem ag_s (i : Nat) {u : DAg} {x : Str} {px : Pos} (hs : DAgs X c es u) (hN : X.N[i]? = some x := by rfl) (hv : Vis X.env.scope x := by first | exact Or.inl rfl | exact Or.inr (Or.inl rfl) | exact Or.inr (Or.inr rfl)) (hd : (x == ("__debug__" : Str)) = false := by decide +kernel)
    (hcd : (x == ("__classdict__" : Str)) = false := by decide +kernel) (hst : starEach (.Name x px :: es) X.env = (false, eval (.Name x px) X.env) :: starEach es X.env := by rfl) : DAgs X c (.Name x px :: es) (agS i u) := fun n W tk => by
  obtain ⟨uv, pa, hr2⟩ := hs n W tk
  refine ⟨_, pa_cons (pe_var (i := i) hN hv hd hcd) pa hst, fun σ σv H Q Qv g up q k => ?_⟩
  obtain ⟨m, e1, q1⟩ := atSl_of q
  obtain ⟨a, h1, _⟩ := g.ow i m e1
  exact ⟨_, h1, hr2 σ σv H _ _ g up q1 fun ds σ2 vs H2 g2 x2 r2 q2 => k _ _ _ _ g2 x2 (.s h1 r2) q2⟩
/-- keywords' values -/
def DKw (X : Cx) (c : DC) (kws : List Keyword) (t : DA) : Prop := ∀ n W, TK X c n W → ∃ tv, PK X kws tv ∧ ∀ σ σv H Q Qv, Gd X.K c σ σv H → Up n σ σv H → t W σ Q →
  (∀ ds σ' vs H', Gd X.K c σ' σv H' → Mv σ σv H σ' σv H' → Rps X.K H' vs ds → Q ds σ' → Qv vs H') → tv σv H Qv
theorem dk_nil : DKw X c [] daNil := fun n W tk => ⟨_, pk_nil, fun σ σv H Q Qv g up q k => k _ _ _ _ g (Mv.refl σ σv H) .nil q⟩
theorem dk_cons {nm : Option Str} {kpos : Pos} {kws : List Keyword} {t : DV} {u : DA} (h : DEv X c e t) (hs : DKw X c kws u) : DKw X c (⟨nm, e, kpos⟩ :: kws) (daCons t u) := fun n W tk => by
  obtain ⟨tv, pe, hr⟩ := h n W tk
  obtain ⟨uv, pa, hr2⟩ := hs n W tk
  refine ⟨_, pk_cons pe pa, fun σ σv H Q Qv g up q k => ?_⟩
  refine hr σ σv H _ _ g up q fun d σ1 v H1 g1 x1 r1 q1 => ?_
  exact hr2 σ1 σv H1 _ _ g1 (up.trans x1) q1 fun ds σ2 vs H2 g2 x2 r2 q2 => k _ _ _ _ g2 (x1.trans x2) (.cons (r1.ext x2.ext) r2) q2

/-! ### the call -/
variable {x : Str} {p : Pos} {kk : Nat} {f : Addr} {fd : FuncData} {ps : List Str} {S : DSp}
theorem run_g {pins : List (Addr × Obj)} {σ : VS} {H : Hp} {s : Shared} {W' : WX} {args : Args} {us : List Value} {vs : List V} {Q : VK} (F : GFn X.prog X.w X.K X.mg X.base kk f fd ps S) (hr : RoomG kk X.A) (tk : Takes X W')
    (hb : BindsTo s fd args (ps.zip us)) (r : Vals vs us) (hl : vs.length = ps.length) (I : Inv X pins σ H s) (h : toSp X.K S vs H Q fun cls d H' => W' cls d σ H') :
    wpAny (model X.prog X.w) X.A (call (.ref f) args.pos args.kw) (EP X pins σ Q) X.xe s := by
  refine wpAny_call (codeAny_mono (F.run X.A X.stack s H args us vs Q (fun cls d H' => W' cls d σ H') hr I.env0 hb r hl h) fun r s' hq => ?_)
  cases r with
  | error e => exact passAt tk σ pins H s e s' I hq
  | ok fl =>
    cases fl with
    | ret u => exact I.after hq
    | next => exact hq.elim
    | brk => exact hq.elim
    | cont => exact hq.elim
def tG (K : PySem.W.Frag) (S : DSp) (W' : WX) (n : Nat) (t : TA) : TE := fun σ H Q => t σ H fun vs H1 => vs.length = n ∧ toSp K S vs H1 Q fun cls d H' => W' cls d σ H'
theorem pe_g {W' : WX} {t : TA} (F : GFn X.prog X.w X.K X.mg X.base kk f fd ps S) (hr : RoomG kk X.A) (tk : Takes X W') (hg : Gl X x) (hm : X.mg x = some (.ref f)) (hk : PySem.W.keepIn X.K (.ref f) = true) (hb : Binds X.K fd ps []) (ha : PA X (e :: es) t)
    (hdb : (x == ("__debug__" : Str)) = false := by decide +kernel) (he : starEach (e :: es) X.env = (false, eval e X.env) :: starEach es X.env := by rfl) (hpl : (backTo pos (starEach es X.env)).any (·.1) = false := by rfl) :
    PE X (.Call (.Name x p) (e :: es) [] pos) (tG X.K S W' ps.length t) := ⟨fun pins s σ H Q I h => by
  refine wpAny_Call_Name_kw (ld_glob I hg hm ?_ hdb)
  refine PySem.W.callWith_K (h₀ := X.base) I.ok.mod.kin hk (thn (ha.run pos pins s σ H _ I h) fun us s1 ⟨vs, H1, I1, r, l, q⟩ => ⟨I1.kIn, ?_⟩) he hpl
  have := hb s1 us I1.kIn (by rw [List.append_nil, ← r.length]; exact l)
  rw [List.append_nil] at this
  exact run_g (args := ⟨us, []⟩) F hr tk this r l I1 q⟩
theorem pe_g0 {W' : WX} (F : GFn X.prog X.w X.K X.mg X.base kk f fd ps S) (hr : RoomG kk X.A) (tk : Takes X W') (hg : Gl X x) (hm : X.mg x = some (.ref f)) (hk : PySem.W.keepIn X.K (.ref f) = true) (hb : Binds X.K fd ps [])
    (hdb : (x == ("__debug__" : Str)) = false := by decide +kernel) : PE X (.Call (.Name x p) [] [] pos) (tG X.K S W' ps.length tNil) := ⟨fun pins s σ H Q I h => by
  refine wpAny_Call_Name_kw (ld_glob I hg hm ?_ hdb)
  have := hb s [] I.kIn (by simpa using h.1)
  rw [List.append_nil] at this
  exact PySem.W.callWith_K0 I.kIn hk (run_g (args := ⟨[], []⟩) F hr tk this .nil h.1 I h.2)⟩
/-- f(k = v, ..): the keywords' values put in the parameters' order by the places pm -/
def permL {α : Type} (pm : List Nat) (zs : List α) : List α := pm.filterMap fun i => zs[i]?
theorem vals_perm {zs : List V} {ws : List Value} (r : Vals zs ws) : ∀ pm : List Nat, Vals (permL pm zs) (permL pm ws)
  | [] => .nil
  | i :: pm => by
    unfold permL
    rw [List.filterMap_cons, List.filterMap_cons]
    cases e : zs[i]? with
    | none => rw [r.none_of e]; exact vals_perm r pm
    | some v =>
      obtain ⟨u, h1, h2⟩ := r.get e
      rw [h1]
      exact .cons h2 (vals_perm r pm)
theorem pe_gK {W' : WX} {kws : List Keyword} {ks : List Str} {pm : List Nat} {tk' : TA} (F : GFn X.prog X.w X.K X.mg X.base kk f fd ps S) (hr : RoomG kk X.A) (tk : Takes X W') (hg : Gl X x) (hm : X.mg x = some (.ref f)) (hk : PySem.W.keepIn X.K (.ref f) = true)
    (hb : ∀ ws : List Value, ws.length = ks.length → bindArgs fd ⟨[], ks.zip ws⟩ = pure (ps.zip (permL pm ws))) (hkw : PK X kws tk')
    (hall : (backToKw pos (keywordEach kws X.env)).all (·.1.isSome) = true := by rfl) (hks : (backToKw pos (keywordEach kws X.env)).filterMap (·.1) = ks := by rfl)
    (hdb : (x == ("__debug__" : Str)) = false := by decide +kernel) (hpl : ((backTo pos (starEach [] X.env)).any (·.1) || (backToKw pos (keywordEach kws X.env)).any (·.1.isNone)) = false := by rfl) :
    PE X (.Call (.Name x p) [] kws pos) (fun σ H Q => tk' σ H fun zs H1 => zs.length = ks.length ∧ (permL pm zs).length = ps.length ∧ toSp X.K S (permL pm zs) H1 Q fun cls d H' => W' cls d σ H') := ⟨fun pins s σ H Q I h => by
  refine wpAny_Call_Name_kw (ld_glob I hg hm ?_ hdb)
  refine PySem.W.callWith_KW0 (h₀ := X.base) I.ok.mod.kin hk hall ?_ hpl
  refine thn (hkw.run pos pins s σ H _ I h) fun ws s2 ⟨zs, H2, I2, rz, l1, l2, q2⟩ => ⟨I2.kIn, ?_⟩
  rw [hks]
  exact run_g (args := ⟨[], ks.zip ws⟩) F hr tk (.of_eq (hb ws (rz.length.symm.trans l1))) (vals_perm rz pm) l2 I2 q2⟩

def retD (Q : D → DS → Prop) (σ : DS) : Rt → Prop
  | .d x => Q x σ
  | .m m => Q m.view σ
def dCall (S : DSp) (n : Nat) (t : DAg) : DV := fun W σ Q => t W σ fun ags σ1 => argsOf σ1 ags fun as => own1 as = true ∧ as.length = n ∧ S as (fun r ms => retD Q (back σ1 ags ms) r) (fun x ms => W x (back σ1 ags ms))
theorem ret_end {σ σ1 σ2 : DS} {σv : VS} {H H1 H2 : Hp} {v : V} {r : Rt} {Qv : VK} {Q : D → DS → Prop} (x : Mv σ σv H σ1 σv H1) (g1 : Gd X.K c σ1 σv H1) (g : Gd X.K c σ2 σv H2) (x2 : Mv σ1 σv H1 σ2 σv H2) (ow : ∀ b, Owd σ2 σv b → Owd σ1 σv b) (rr : RtRep X.K H1 H2 v r) (q : retD Q σ2 r)
    (k : ∀ d σ' v H', Gd X.K c σ' σv H' → Mv σ σv H σ' σv H' → Rp X.K H' v d → Q d σ' → Qv v H') : Qv v H2 ∨ ∃ a u, H2 a = some u ∧ Lk u ∧ ∀ o, Qv v (upd H2 a (.frz o u)) := by
  cases r with
  | d y => exact .inl (k _ _ _ _ g (x.trans x2) rr q)
  | m m =>
    obtain ⟨a, rfl, n, r⟩ := rr
    have nw : H a = none := by
      cases e : H a with
      | none => rfl
      | some o =>
        obtain ⟨o', h⟩ := x.dom a o e
        rw [n] at h
        cases h
    obtain ⟨u, h4, h5, h6⟩ := lock_new g (x.trans x2) ⟨r, nw, fun z => g1.not_own n (ow a z)⟩
    exact .inr ⟨a, u, h4, h5, fun o => k _ _ _ _ (h6 o).1 (h6 o).2.1 (h6 o).2.2 q⟩
theorem dev_call {t : DAg} (F : GFn X.prog X.w X.K X.mg X.base kk f fd ps S) (hr : RoomG kk X.A) (hg : Gl X x) (hm : X.mg x = some (.ref f)) (hk : PySem.W.keepIn X.K (.ref f) = true) (hb : Binds X.K fd ps []) (ha : DAgs X c (e :: es) t)
    (hdb : (x == ("__debug__" : Str)) = false := by decide +kernel) (he : starEach (e :: es) X.env = (false, eval e X.env) :: starEach es X.env := by rfl) (hpl : (backTo pos (starEach es X.env)).any (·.1) = false := by rfl) :
    DEv X c (.Call (.Name x p) (e :: es) [] pos) (dCall S ps.length t) := fun n W tk => by
  obtain ⟨tv, pa, hra⟩ := ha n W tk
  refine ⟨_, pe_lk (pe_g F hr tk hg hm hk hb pa hdb he hpl), fun σ σv H Q Qv g up q k => ?_⟩
  refine hra σ σv H _ _ g up q fun ags σ1 vs H1 g1 x1 r1 q1 => ?_
  obtain ⟨as, ar, ⟨o1, ln, hS⟩, h3, _⟩ := args_ar g1 r1 q1
  refine ⟨ar.length.trans ln, as, _, _, ar, o1, hS, fun r ms v H' q2 hk hm' rr => ?_, fun y ms cls d H' q2 hk hm' er => ?_⟩
  · obtain ⟨g2, x2, ow⟩ := h3 ms H' o1 hk hm'
    exact ret_end x1 g1 g2 x2 ow rr q2 k
  · obtain ⟨g2, x2, ow⟩ := h3 ms H' o1 hk hm'
    exact ⟨_, y, g2, (up.trans x1).trans x2, er, q2⟩
def dCall0 (S : DSp) : DV := fun W σ Q => S [] (fun r _ => retD Q σ r) (fun x _ => W x σ)
theorem dev_call0 (F : GFn X.prog X.w X.K X.mg X.base kk f fd [] S) (hr : RoomG kk X.A) (hg : Gl X x) (hm : X.mg x = some (.ref f)) (hk : PySem.W.keepIn X.K (.ref f) = true) (hb : Binds X.K fd [] [])
    (hdb : (x == ("__debug__" : Str)) = false := by decide +kernel) : DEv X c (.Call (.Name x p) [] [] pos) (dCall0 S) := fun n W tk => by
  refine ⟨_, pe_lk (pe_g0 F hr tk hg hm hk hb hdb), fun σ σv H Q Qv g up q k => ?_⟩
  refine ⟨rfl, [], _, _, trivial, rfl, q, fun r ms v H' q2 hk hm' rr => ?_, fun y ms cls d H' q2 hk hm' er => ?_⟩
  · have sm : Same H H' := fun a o h => hk a o h (by simp [fpOf])
    exact ret_end (Mv.refl σ σv H) g (g.same sm) (Mv.same sm) (fun _ h => h) rr q2 k
  · have sm : Same H H' := fun a o h => hk a o h (by simp [fpOf])
    exact ⟨_, y, g.same sm, up.trans (Mv.same sm), er, q2⟩
/-- f(k = v, ..): values alone -/
def dCallK (S : DSp) (n m : Nat) (pm : List Nat) (t : DA) : DV := fun W σ Q => t W σ fun ds σ1 => ds.length = m ∧ (permL pm ds).length = n ∧ S ((permL pm ds).map .val) (fun r _ => retD Q σ1 r) (fun x _ => W x σ1)
theorem ar_vals {K : PySem.W.Frag} {H : Hp} : ∀ {vs : List V} {ds : List D}, Rps K H vs ds → AR K H vs (ds.map .val) ∧ own1 (ds.map .val) = true ∧ fpOf vs (ds.map .val) = []
  | _, _, .nil => ⟨trivial, rfl, rfl⟩
  | v :: _, _, .cons a r => by
    obtain ⟨h1, h2, h3⟩ := ar_vals r
    exact ⟨⟨a, h1⟩, h2, by cases v <;> exact h3⟩
theorem rps_perm {K : PySem.W.Frag} {H : Hp} {vs : List V} {ds : List D} (r : Rps K H vs ds) : ∀ pm : List Nat, Rps K H (permL pm vs) (permL pm ds)
  | [] => .nil
  | i :: pm => by
    unfold permL
    rw [List.filterMap_cons, List.filterMap_cons]
    cases e : ds[i]? with
    | none =>
      have : vs[i]? = none := by
        rw [List.getElem?_eq_none_iff] at e ⊢
        rw [r.length]; exact e
      rw [this]
      exact rps_perm r pm
    | some d =>
      obtain ⟨v, h1, h2⟩ := r.get e
      rw [h1]
      exact .cons h2 (rps_perm r pm)
theorem dev_callK {t : DA} {kws : List Keyword} {ks : List Str} {pm : List Nat} (F : GFn X.prog X.w X.K X.mg X.base kk f fd ps S) (hr : RoomG kk X.A) (hg : Gl X x) (hm : X.mg x = some (.ref f)) (hk : PySem.W.keepIn X.K (.ref f) = true)
    (hb : ∀ ws : List Value, ws.length = ks.length → bindArgs fd ⟨[], ks.zip ws⟩ = pure (ps.zip (permL pm ws))) (ha : DKw X c kws t)
    (hall : (backToKw pos (keywordEach kws X.env)).all (·.1.isSome) = true := by rfl) (hks : (backToKw pos (keywordEach kws X.env)).filterMap (·.1) = ks := by rfl)
    (hdb : (x == ("__debug__" : Str)) = false := by decide +kernel) (hpl : ((backTo pos (starEach [] X.env)).any (·.1) || (backToKw pos (keywordEach kws X.env)).any (·.1.isNone)) = false := by rfl) :
    DEv X c (.Call (.Name x p) [] kws pos) (dCallK S ps.length ks.length pm t) := fun n W tk => by
  obtain ⟨tv, pa, hra⟩ := ha n W tk
  refine ⟨_, pe_lk (pe_gK F hr tk hg hm hk hb pa hall hks hdb hpl), fun σ σv H Q Qv g up q k => ?_⟩
  refine hra σ σv H _ _ g up q fun ds σ1 vs H1 g1 x1 r1 ⟨l1, l2, hS⟩ => ?_
  have rp := rps_perm r1 pm
  obtain ⟨ar, o1, fp⟩ := ar_vals rp
  refine ⟨r1.length.trans l1, rp.length.trans l2, _, _, _, ar, o1, hS, fun r ms v H' q2 hk hm' rr => ?_, fun y ms cls d H' q2 hk hm' er => ?_⟩
  · rw [fp] at hk
    have sm : Same H1 H' := fun a o h => hk a o h (by simp)
    exact ret_end x1 g1 (g1.same sm) (Mv.same sm) (fun _ h => h) rr q2 k
  · rw [fp] at hk
    have sm : Same H1 H' := fun a o h => hk a o h (by simp)
    exact ⟨_, y, g1.same sm, (up.trans x1).trans (Mv.same sm), er, q2⟩
end
end DL
namespace DL
open PySem PySem.Spec PyProof.Rows L2

/-! ### while -/
section
variable {X : Cx} {c : DC} {a b e iter tg : Expr} {es : List Expr} {body : List Stmt} {pos : Pos}
def sWhile (tc : DB) (tb : DTS) : DTS := fun Dn σ => ∃ I : Nat → DS → Prop, (∃ m, I m σ) ∧ ∀ m σ, I m σ → tc Dn.xn σ fun k σ1 => if k = true then tb { Dn with nx := fun σ' => ∃ m', m' < m ∧ I m' σ', ct := fun σ' => ∃ m', m' < m ∧ I m' σ', bk := Dn.nx } σ1 else Dn.nx σ1
theorem st_while {cnd : Expr} {tc : DB} {tb : DTS} (hc : DBt X c cnd tc) (hb : DSs X c body tb) (hp : PassesOwn (model X.prog X.w) X.A X.env X.xe := by exact passes_of rfl) : DSt X c (.While cnd body [] pos) (sWhile tc tb) := fun n W tk => by
  obtain ⟨cv, pc, hrc⟩ := hc n W tk
  obtain ⟨bv, pb, hrb⟩ := hb n W tk
  refine ⟨_, ps_while hp pc pb, fun Dn σ σv H Dv ex g up ⟨I, ⟨m, h0⟩, hI⟩ r => ?_⟩
  refine ⟨fun m σv' H' => ∃ σ', Gd X.K c σ' σv' H' ∧ Mv σ σv H σ' σv' H' ∧ I m σ', ⟨m, σ, g, Mv.refl σ σv H, h0⟩, ?_⟩
  rintro m σv1 H1 ⟨σ1, g1, x1, h1⟩
  have q := hI m σ1 h1
  rw [ex] at q
  refine hrc σ1 σv1 H1 _ _ g1 (up.trans x1) q fun k σ2 H2 g2 x2 q2 => ?_
  cases k with
  | false =>
    rw [if_neg (by decide)] at q2 ⊢
    exact r.nx _ _ _ g2 (x1.trans x2) q2
  | true =>
    rw [if_pos rfl] at q2 ⊢
    refine ⟨fun σv' H' => ∃ σ', Gd X.K c σ' σv' H' ∧ Mv σ σv H σ' σv' H' ∧ ∃ m', m' < m ∧ I m' σ', fun σv' H' ⟨σ', g', x', m', hm, h'⟩ => ⟨m', hm, σ', g', x', h'⟩, ?_⟩
    refine hrb { Dn with nx := fun σ' => ∃ m', m' < m ∧ I m' σ', ct := fun σ' => ∃ m', m' < m ∧ I m' σ', bk := Dn.nx } σ2 σv1 H2 _ ex g2 ((up.trans x1).trans x2) (by rw [← ex] at q2; exact q2) ⟨fun σ3 σv3 H3 g3 x3 q3 => ?_, fun d σ3 σv3 v H3 g3 x3 rr q3 => ?_, fun σ3 σv3 H3 g3 x3 q3 => ?_, fun σ3 σv3 H3 g3 x3 q3 => ?_, fun m' a σ3 σv3 H3 g3 x3 rr n3 q3 => r.rm _ _ _ _ _ g3 ((x1.trans x2).trans x3) rr ((x1.trans x2).fresh n3) q3, fun i m' a σ3 σv3 H3 g3 x3 e1 e2 q3 => r.ro _ _ _ _ _ _ g3 ((x1.trans x2).trans x3) e1 e2 q3⟩
    · exact ⟨σ3, g3, (x1.trans x2).trans x3, q3⟩
    · exact r.rt _ _ _ _ _ g3 ((x1.trans x2).trans x3) rr q3
    · exact r.nx _ _ _ g3 ((x1.trans x2).trans x3) q3
    · exact ⟨σ3, g3, (x1.trans x2).trans x3, q3⟩

/-! ### what is walked -/
def ItD (K : PySem.W.Frag) (J : It) (ds : List D) (Hs : Hp) : Prop := ∀ (i : Nat) (H : Hp), Ext Hs H → (i < ds.length → J.go i H ∧ ∀ x H', J.yld i H x H' → Same H H' ∧ ∃ d, ds[i]? = some d ∧ Rp K H' x d) ∧ (ds.length ≤ i → J.stop i H)
def DI (X : Cx) (c : DC) (tg iter : Expr) (t : DA) : Prop := ∀ n W, TK X c n W → ∃ wi, PI X tg iter wi ∧ ∀ σ σv H Q (R : It → Hp → Prop), Gd X.K c σ σv H → Up n σ σv H → t W σ Q →
  (∀ ds σ' J H', Gd X.K c σ' σv H' → Mv σ σv H σ' σv H' → ItD X.K J ds H' → Q ds σ' → R J H') → wi σv H R
def iSeq (K : PySem.W.Frag) (tl : TE) : TI := fun σ H R => tl σ H fun x H1 => ∃ a, x = .ref a ∧ (((∃ xs, SqL K H1 a xs) ∧ R (Itl K a) H1) ∨ ((∃ xs, SqT K H1 a xs) ∧ R (Itt K a) H1))
theorem pi_seq {tl : TE} (hl : PE X e tl) : PI X tg e (iSeq X.K tl) := ⟨fun pins s σ H R I h => thn (hl.run pins s σ H _ I h) fun v s1 ⟨x, H1, J, r1, a, hx, q1⟩ => by
  subst hx
  cases r1
  have new : ∀ b ∈ [s1.heap.objs.size], FpOk X pins H1 b := fun b hb => by
    rw [List.mem_singleton] at hb
    subst hb
    exact J.fpOk (Nat.le_refl _) (J.hok.fresh (Nat.le_refl _))
  rcases q1 with ⟨⟨xs, hq⟩, q⟩ | ⟨⟨xs, hq⟩, q⟩
  · obtain ⟨its, _, pl, _⟩ := J.list hq
    exact wpAny_pyIter_list pl.isList ⟨_, [s1.heap.objs.size], _, _, H1, rfl, J.kept (t' := s1.toks) (fun b o q => Heap.get?_push_of_some _ q), turn_list a _, ⟨_, Heap.get?_push_size _ rfl, rfl, rfl⟩, new, q⟩
  · obtain ⟨its, _, pt, _⟩ := J.tuple hq
    exact wpAny_pyIter_tuple (show s1.heap.IsTuple a its.toArray from pt) ⟨_, [s1.heap.objs.size], _, _, H1, rfl, J.kept (t' := s1.toks) (fun b o q => Heap.get?_push_of_some _ q), turn_tuple a _, ⟨_, Heap.get?_push_size _ rfl, rfl, rfl⟩, new, q⟩⟩
def items : D → (List D → Prop) → Prop
  | .list xs, k => k xs
  | .tuple xs, k => k xs
  | _, _ => False
def iD (t : DV) : DA := fun W σ Q => t W σ fun d σ1 => items d fun xs => Q xs σ1
theorem itd_list {K : PySem.W.Frag} {H : Hp} {a : Addr} {xs : List V} {ds : List D} (h : Rd (stab H) a (.lst xs)) (r : Rps K H xs ds) : ItD K (Itl K a) ds H := fun i H1 x => by
  have h1 : SqL K H1 a xs := .inl (rdl_un (rdl_ext x h))
  have uniq : ∀ ys, SqL K H1 a ys → ys = xs → True := fun _ _ _ => trivial
  refine ⟨fun hi => ?_, fun hi => ⟨xs, h1, by rw [r.length]; exact hi⟩⟩
  obtain ⟨v, e1, e2⟩ := r.get (List.getElem?_eq_getElem hi)
  refine ⟨⟨xs, v, h1, e1⟩, fun y H' ⟨e, hy⟩ => ?_⟩
  subst e
  have := hy xs h1
  rw [e1] at this
  cases this
  exact ⟨Same.refl _, _, List.getElem?_eq_getElem hi, e2.ext x⟩
theorem itd_tup {K : PySem.W.Frag} {H : Hp} {a : Addr} {xs : List V} {ds : List D} (h : SqT K (stab H) a xs) (r : Rps K H xs ds) : ItD K (Itt K a) ds H := fun i H1 x => by
  have h1 : SqT K H1 a xs := SqT.un (SqT.ext x h)
  refine ⟨fun hi => ?_, fun hi => ⟨xs, h1, by rw [r.length]; exact hi⟩⟩
  obtain ⟨v, e1, e2⟩ := r.get (List.getElem?_eq_getElem hi)
  refine ⟨⟨xs, v, h1, e1⟩, fun y H' ⟨e, hy⟩ => ?_⟩
  subst e
  have := hy xs h1
  rw [e1] at this
  cases this
  exact ⟨Same.refl _, _, List.getElem?_eq_getElem hi, e2.ext x⟩
theorem di_seq {t : DV} (h : DEv X c e t) : DI X c tg e (iD t) := fun n W tk => by
  obtain ⟨tv, pe, hr⟩ := h n W tk
  refine ⟨_, pi_seq pe, fun σ σv H Q R g up q k => ?_⟩
  refine hr σ σv H _ _ g up q fun d σ1 v H1 g1 x1 r1 q1 => ?_
  cases r1 <;> first | exact q1.elim | skip
  · next a xs ds h1 h2 => exact ⟨_, rfl, .inl ⟨⟨xs, .inl (rdl_un h1)⟩, k _ _ _ _ g1 x1 (itd_list h1 h2) q1⟩⟩
  · next a xs ds h1 h2 => exact ⟨_, rfl, .inr ⟨⟨xs, SqT.un h1⟩, k _ _ _ _ g1 x1 (itd_tup h1 h2) q1⟩⟩
def rng (lo : Int) (n : Nat) : List D := (List.range n).map fun (i : Nat) => .int (lo + (i : Int))
theorem itd_rng {K : PySem.W.Frag} {H : Hp} (lo : Int) (n : Nat) : ItD K (Itr lo n) (rng lo n) H := fun i H1 x => by
  have l : (rng lo n).length = n := by unfold rng; rw [List.length_map, List.length_range]
  refine ⟨fun hi => ⟨by rw [l] at hi; exact hi, fun y H' ⟨e, hy⟩ => ?_⟩, fun hi => by rw [l] at hi; exact hi⟩
  subst e
  subst hy
  rw [l] at hi
  refine ⟨Same.refl _, _, ?_, .int _⟩
  unfold rng
  rw [List.getElem?_map, List.getElem?_range hi]
  rfl
def iRg1 (t : DR) : DA := fun W σ Q => t W σ fun rs σ1 => vws σ1 rs fun ds => match ds with
  | [.int j] => (-(2 ^ 62) ≤ j ∧ j < 2 ^ 62) ∧ Q (rng 0 j.toNat) σ1
  | _ => False
theorem di_rng1 {p : Pos} {t : DR} (hg : Gl X "range") (hm : X.mg "range" = none) (ha : DRs X c [e] t) (hs : starEach [e] X.env = [(false, eval e X.env)] := by rfl) : DI X c tg (.Call (.Name "range" p) [e] [] pos) (iRg1 t) := fun n W tk => by
  obtain ⟨tv, pa, hr⟩ := ha n W tk
  refine ⟨_, pi_range1 hg hm pa hs, fun σ σv H Q R g up q k => ?_⟩
  refine hr σ σv H _ _ g up q fun rs σ1 vs H1 g1 x1 l1 rr q1 => ?_
  obtain ⟨ds, h1, h2⟩ := vws_of g1 l1 rr q1
  split at h2
  · next j =>
    cases h1 with
    | cons a r =>
      cases r
      cases a.int
      exact ⟨j, rfl, h2.1.1, h2.1.2, k _ _ _ _ g1 x1 (itd_rng 0 j.toNat) h2.2⟩
  · exact h2.elim
def iRg2 (t : DR) : DA := fun W σ Q => t W σ fun rs σ1 => vws σ1 rs fun ds => match ds with
  | [.int i, .int j] => (-(2 ^ 62) ≤ i ∧ i < 2 ^ 62 ∧ -(2 ^ 62) ≤ j ∧ j < 2 ^ 62) ∧ Q (rng i (j - i).toNat) σ1
  | _ => False
theorem di_rng2 {p : Pos} {t : DR} (hg : Gl X "range") (hm : X.mg "range" = none) (ha : DRs X c [a, b] t) (hs : starEach [a, b] X.env = [(false, eval a X.env), (false, eval b X.env)] := by rfl) (hs2 : starEach [b] X.env = [(false, eval b X.env)] := by rfl) : DI X c tg (.Call (.Name "range" p) [a, b] [] pos) (iRg2 t) := fun n W tk => by
  obtain ⟨tv, pa, hr⟩ := ha n W tk
  refine ⟨_, pi_range2 hg hm pa hs hs2, fun σ σv H Q R g up q k => ?_⟩
  refine hr σ σv H _ _ g up q fun rs σ1 vs H1 g1 x1 l1 rr q1 => ?_
  obtain ⟨ds, h1, h2⟩ := vws_of g1 l1 rr q1
  split at h2
  · next i j =>
    cases h1 with
    | cons a r =>
      cases r with
      | cons b r =>
        cases r
        cases a.int
        cases b.int
        exact ⟨i, j, rfl, h2.1, k _ _ _ _ g1 x1 (itd_rng i (j - i).toNat) h2.2⟩
  · exact h2.elim

/-! ### for -/
def forD (g : GT) (tb : DTS) (Dn : DEnds) : List D → DS → Prop
  | [], σ => Dn.nx σ
  | x :: xs, σ => g x σ fun σ2 => tb { Dn with nx := forD g tb Dn xs, ct := forD g tb Dn xs, bk := Dn.nx } σ2
def sFor (ti : DA) (g : GT) (tb : DTS) : DTS := fun Dn σ => ti Dn.xn σ fun xs σ1 => forD g tb Dn xs σ1
theorem st_for {ti : DA} {g : GT} {is : List Nat} {tb : DTS} (hc : X.calm = true) (hi : DI X c tg iter ti) (hg : DG X c tg is g) (hb : DSs X c body tb) (hp : PassesOwn (model X.prog X.w) X.A X.env X.xe := by exact passes_of rfl)
    (hs : ∀ x, foldedSetIterable iter X.env x = pure x := by intro _; rfl) : DSt X c (.For tg iter body [] pos) (sFor ti g tb) := fun n W tk => by
  obtain ⟨iv, pi, hri⟩ := hi n W tk
  obtain ⟨gv, pg, hrg⟩ := hg
  obtain ⟨bv, pb, hrb⟩ := hb n W tk
  refine ⟨_, ps_for hp hc pi pg pb hs, fun Dn σ σv H Dv ex gd up q r => ?_⟩
  subst ex
  refine hri σ σv H _ _ gd up q fun ds σ1 J H1 g1 x1 it q1 => ?_
  refine ⟨fun i m σv' H' => m = ds.length - i ∧ i ≤ ds.length ∧ ∃ σ', Gd X.K c σ' σv' H' ∧ Mv σ1 σv H1 σ' σv' H' ∧ forD g tb Dn (ds.drop i) σ', ⟨ds.length, by simp, Nat.zero_le _, σ1, g1, Mv.refl _ _ _, by simpa using q1⟩, ?_⟩
  rintro i m σv2 H2 ⟨rfl, hi, σ2, g2, x2, q2⟩
  obtain ⟨it1, it2⟩ := it i H2 x2.ext
  by_cases hlt : i < ds.length
  · obtain ⟨go, yl⟩ := it1 hlt
    refine .inr ⟨go, fun σv' H' => ∃ σ', Gd X.K c σ' σv' H' ∧ Mv σ1 σv H1 σ' σv' H' ∧ forD g tb Dn (ds.drop (i + 1)) σ', fun σv' H' ⟨σ', a, b, d⟩ => ⟨ds.length - (i + 1), by omega, rfl, hlt, σ', a, b, d⟩, fun x H3 hy => ?_⟩
    obtain ⟨sm, d, e1, e2⟩ := yl x H3 hy
    rw [List.drop_eq_getElem_cons hlt] at q2
    rw [List.getElem?_eq_getElem hlt] at e1
    cases e1
    refine hrg _ σ2 σv2 x H3 _ _ (g2.same sm) e2 q2 fun σ4 σv4 g4 x4 _ _ q4 => ?_
    have x3 : Mv σ1 σv H1 σ4 σv4 H3 := (x2.trans (Mv.same sm)).trans x4
    refine hrb { Dn with nx := forD g tb Dn (ds.drop (i + 1)), ct := forD g tb Dn (ds.drop (i + 1)), bk := Dn.nx } σ4 σv4 H3 _ rfl g4 (up.trans (x1.trans x3)) q4 ⟨fun σ5 σv5 H5 g5 x5 q5 => ⟨σ5, g5, x3.trans x5, q5⟩, fun d σ5 σv5 v H5 g5 x5 rr q5 => r.rt _ _ _ _ _ g5 (x1.trans (x3.trans x5)) rr q5, fun σ5 σv5 H5 g5 x5 q5 => r.nx _ _ _ g5 (x1.trans (x3.trans x5)) q5,
      fun σ5 σv5 H5 g5 x5 q5 => ⟨σ5, g5, x3.trans x5, q5⟩, fun m' a σ5 σv5 H5 g5 x5 rr n5 q5 => r.rm _ _ _ _ _ g5 (x1.trans (x3.trans x5)) rr ((x1.trans x3).fresh n5) q5, fun j m' a σ5 σv5 H5 g5 x5 e1 e2 q5 => r.ro _ _ _ _ _ _ g5 (x1.trans (x3.trans x5)) e1 e2 q5⟩
  · have e : i = ds.length := by omega
    subst e
    rw [List.drop_length] at q2
    exact .inl ⟨it2 (Nat.le_refl _), r.nx _ _ _ g2 (x1.trans x2) q2⟩

/-! ### comprehensions -/
def forget (σ : DS) : List Nat → DS
  | [] => σ
  | v :: vs => (forget σ vs).set v .no
theorem forget_some {σ : DS} {z : Sl} (hz : z ≠ .no) : ∀ {vs : List Nat} {i : Nat}, (forget σ vs)[i]? = some z → σ[i]? = some z ∧ i ∉ vs
  | [], i, h => ⟨h, by simp⟩
  | v :: vs, i, h => by
    by_cases e : v = i
    · subst e
      unfold forget at h
      have hl : v < (forget σ vs).length := by have := (List.getElem?_eq_some_iff.mp h).1; rw [List.length_set] at this; exact this
      rw [List.getElem?_set_self hl] at h
      cases h
      exact absurd rfl hz
    · unfold forget at h
      rw [List.getElem?_set_ne e] at h
      obtain ⟨h1, h2⟩ := forget_some hz h
      exact ⟨h1, by simp [h2, Ne.symm e]⟩
theorem forget_length (σ : DS) : ∀ vs : List Nat, (forget σ vs).length = σ.length
  | [] => rfl
  | v :: vs => by unfold forget; rw [List.length_set, forget_length σ vs]
theorem wipe_none (σ : VS) : ∀ {vs : List Nat} {i : Nat}, i ∉ vs → (wipe σ vs)[i]? = σ[i]?
  | [], i, h => rfl
  | v :: vs, i, h => by
    unfold wipe
    rw [List.getElem?_set_ne (fun e => h (by simp [e]))]
    exact wipe_none σ fun z => h (List.mem_cons_of_mem _ z)
section
variable {K : PySem.W.Frag} {σ σ' : DS} {σv σv' : VS} {H H' : Hp} {vs : List Nat}
theorem Gd.forget (g : Gd K c σ σv H) : Gd K c (forget σ vs) (wipe σv vs) H := by
  refine ⟨by rw [forget_length, wipe_length, g.len], fun i d h => ?_, fun i m h => ?_, fun i j m m' a h1 h2 h3 h4 => ?_⟩
  · obtain ⟨h1, h2⟩ := forget_some (by intro z; cases z) h
    obtain ⟨v, h3, h4⟩ := g.val i d h1
    exact ⟨v, by rw [wipe_none σv h2]; exact h3, h4⟩
  · obtain ⟨h1, h2⟩ := forget_some (by intro z; cases z) h
    obtain ⟨a, h3, h4⟩ := g.ow i m h1
    exact ⟨a, by rw [wipe_none σv h2]; exact h3, h4⟩
  · obtain ⟨q1, n1⟩ := forget_some (by intro z; cases z) h1
    obtain ⟨q2, n2⟩ := forget_some (by intro z; cases z) h2
    rw [wipe_none σv n1] at h3
    rw [wipe_none σv n2] at h4
    exact g.apart i j m m' a q1 q2 h3 h4
theorem Gd.unwipe (g : Gd K c σ (wipe σv vs) H) : Gd K c σ σv H := by
  have k : ∀ {i : Nat} {v : V}, (wipe σv vs)[i]? = some (some v) → σv[i]? = some (some v) := fun h => (wipe_some h).1
  have back : ∀ {i : Nat} {m : M} {a : Addr}, σ[i]? = some (.ow m) → σv[i]? = some (some (.ref a)) → (wipe σv vs)[i]? = some (some (.ref a)) := fun {i m a} h1 h2 => by
    obtain ⟨b, h3, _⟩ := g.ow i m h1
    have := k h3
    rw [h2] at this
    cases this
    exact h3
  refine ⟨by rw [g.len, wipe_length], fun i d h => ?_, fun i m h => ?_, fun i j m m' a h1 h2 h3 h4 => g.apart i j m m' a h1 h2 (back h1 h3) (back h2 h4)⟩
  · obtain ⟨v, h3, h4⟩ := g.val i d h
    exact ⟨v, k h3, h4⟩
  · obtain ⟨a, h3, h4⟩ := g.ow i m h
    exact ⟨a, k h3, h4⟩
theorem owd_forget {a : Addr} (h : Owd (DL.forget σ vs) (wipe σv vs) a) : Owd σ σv a := by
  obtain ⟨i, m, h1, h2⟩ := h
  obtain ⟨q1, n1⟩ := forget_some (by intro z; cases z) h1
  rw [wipe_none σv n1] at h2
  exact ⟨i, m, q1, h2⟩
theorem Mv.shrink (h : ∀ a, Owd σ' σv' a → Owd σ σv a) : Mv σ σv H σ' σv' H := ⟨Ext.refl H, fun a o q n => ⟨q, fun z => n (h a z)⟩, fun a o q => ⟨o, q⟩⟩
end
/-- the tests of a comprehension -/
def DTt (X : Cx) (c : DC) (ifs : List Expr) (t : DB) : Prop := ∀ n W, TK X c n W → ∃ tv, PTs X ifs tv ∧ ∀ σ σv H Q Qv, Gd X.K c σ σv H → Up n σ σv H → t W σ Q →
  (∀ b σ' H', Gd X.K c σ' σv H' → Mv σ σv H σ' σv H' → Q b σ' → Qv b H') → tv σv H Qv
def bYes : DB := fun _ σ Q => Q true σ
theorem tt_nil : DTt X c [] bYes := fun n W tk => ⟨_, pts_nil, fun σ σv H Q Qv g up q k => k _ _ _ g (Mv.refl σ σv H) q⟩
theorem tt_one {t : DB} (h : DBt X c e t) : DTt X c [e] t := fun n W tk => let ⟨tv, pe, hr⟩ := h n W tk; ⟨_, pts_one pe, hr⟩
def W0 : DK := fun _ _ => False
theorem takes_w0 {n : En} : TK X c n W0 := fun u s' ⟨_, _, _, _, _, _, _, _, _, _, _, _, _, _, _, _, z⟩ => by
  obtain ⟨_, _, _, _, _, z⟩ := z
  exact z.elim
def lcD (vs : List Nat) (g : GT) (tt : DB) (te : DV) : List D → List D → DS → (List D → DS → Prop) → Prop
  | [], acc, σ, Q => Q acc σ
  | x :: xs, acc, σ, Q => g x σ fun σ2 => tt W0 σ2 fun b σ3 => if b = true then te W0 σ3 fun d σ4 => lcD vs g tt te xs (acc ++ [d]) (forget σ4 vs) Q else lcD vs g tt te xs acc (forget σ3 vs) Q
def dLc (vs : List Nat) (ti : DA) (g : GT) (tt : DB) (te : DV) : DM := fun W σ Q => ti W σ fun xs σ1 => xs.length ≤ sizeLine ∧ lcD vs g tt te xs [] (forget σ1 vs) fun acc σ2 => Q (.lst acc) σ2
/-- one reading for all blocks -/
theorem all_pe {F : Type} {X' : F → Cx} {P : F → TE → Prop} (h : ∀ f, ∃ tv, PE (X' f) e tv ∧ P f tv) : ∃ tv, (∀ f, PE (X' f) e tv) ∧ ∀ f, ∃ tv', P f tv' ∧ tv = fun σ H Q => ∀ f, (Classical.choose (h f)) σ H Q := by
  refine ⟨fun σ H Q => ∀ f, (Classical.choose (h f)) σ H Q, fun f => ⟨fun pins s σ H Q I q => (Classical.choose_spec (h f)).1.run pins s σ H Q I (q f)⟩, fun f => ⟨_, (Classical.choose_spec (h f)).2, rfl⟩⟩
end
end DL
namespace DL
open PySem PySem.Spec PyProof.Rows L2

theorem wipe_length' (σ : VS) (vs : List Nat) : (wipe σ vs).length = σ.length := wipe_length σ vs
theorem wipe_at (σ : VS) : ∀ {vs : List Nat} {i : Nat}, i ∈ vs → i < σ.length → (wipe σ vs)[i]? = some none
  | [], i, h, _ => by simp at h
  | v :: vs, i, h, hl => by
    by_cases e : v = i
    · subst e
      unfold wipe
      exact List.getElem?_set_self (by rw [wipe_length]; exact hl)
    · unfold wipe
      rw [List.getElem?_set_ne e]
      exact wipe_at σ (by rcases List.mem_cons.mp h with z | z; exact absurd z.symm e; exact z) hl
theorem wipe_eq {a b : VS} {vs : List Nat} (l : a.length = b.length) (h : ∀ j, j ∉ vs → a[j]? = b[j]?) : wipe a vs = wipe b vs := by
  apply List.ext_getElem?
  intro i
  by_cases hi : i ∈ vs
  · by_cases hl : i < a.length
    · rw [wipe_at a hi hl, wipe_at b hi (by omega)]
    · rw [List.getElem?_eq_none (by rw [wipe_length]; omega), List.getElem?_eq_none (by rw [wipe_length]; omega)]
  · rw [wipe_none a hi, wipe_none b hi]
    exact h i hi
section
variable {X : Cx} {c : DC} {e iter tg : Expr} {ifs : List Expr} {pos : Pos}
structure BF where
  s : Shared
  H : Hp
  C : Addr
  cl : List (Str × Addr)
  fp : List Addr
abbrev bX (X : Cx) (scope : Scope) (f : BF) : Cx := X.blk f.s f.H scope (compEnvC scope f.cl f.C X.env) f.fp
/-- the reading of a comprehension -/
theorem lc_read {scope : Scope} {own : List (Str × Nat)} {ti : DA} {g : GT} {is : List Nat} {tt : DB} {te : DV} {n : En} {W : DK} {wi : TI} (hri : ∀ σ σv H Q (R : It → Hp → Prop), Gd X.K c σ σv H → Up n σ σv H → ti W σ Q →
      (∀ ds σ' J H', Gd X.K c σ' σv H' → Mv σ σv H σ' σv H' → ItD X.K J ds H' → Q ds σ' → R J H') → wi σv H R)
    (hs : ∀ i ∈ is, i ∈ own.map (·.2)) (hg : ∀ f : BF, DG (bX X scope f) c tg is g) (ht : ∀ f : BF, DTt (bX X scope f) c ifs tt) (he : ∀ f : BF, DEv (bX X scope f) c e te) :
    ∃ (gv : TG) (ttv : TT) (tev : TE), (∀ f : BF, PG (bX X scope f) tg gv) ∧ (∀ f : BF, PTs (bX X scope f) ifs ttv) ∧ (∀ f : BF, PE (bX X scope f) e tev) ∧
      ∀ σ σv H Q Qv, Gd X.K c σ σv H → Up n σ σv H → dLc (own.map (·.2)) ti g tt te W σ Q →
        (∀ m σ' a H', Gd X.K c σ' σv H' → Mv σ σv H σ' σv H' → Fresh X.K σ' σv H H' a m → Q m σ' → Qv (.ref a) H') → tLc wi gv ttv tev (own.map (·.2)) σv H Qv := by
  have fG := fun f => Classical.choose_spec (hg f)
  have fT := fun f => Classical.choose_spec (ht f n W0 takes_w0)
  have fE := fun f => Classical.choose_spec (he f n W0 takes_w0)
  refine ⟨fun v σ H Q => ∀ f, (Classical.choose (hg f)) v σ H Q, fun σ H Q => ∀ f, (Classical.choose (ht f n W0 takes_w0)) σ H Q, fun σ H Q => ∀ f, (Classical.choose (he f n W0 takes_w0)) σ H Q,
    fun f => ⟨fun pins s σ H v u Q I r q => (fG f).1.run pins s σ H v u Q I r (q f)⟩, fun f => ⟨fun pins s σ H Q I q => (fT f).1.run pins s σ H Q I (q f)⟩, fun f => ⟨fun pins s σ H Q I q => (fE f).1.run pins s σ H Q I (q f)⟩, fun σ σv H Q Qv g0 up q k => ?_⟩
  refine hri σ σv H _ _ g0 up q fun ds σ1 J H1 g1 x1 it ⟨hz, q1⟩ => ?_
  intro Dd nD
  have smD : Same H1 (upd H1 Dd (.lst [])) := Same.new nD
  have nH : H Dd = none := by
    cases e : H Dd with
    | none => rfl
    | some o =>
      obtain ⟨o', h⟩ := x1.dom Dd o e
      rw [nD] at h
      cases h
  refine ⟨fun i m H' => m = ds.length - i ∧ i ≤ ds.length ∧ ∃ σ' acc accv, Gd X.K c σ' (wipe σv (own.map (·.2))) H' ∧ Mv σ σv H σ' (wipe σv (own.map (·.2))) H' ∧ H' Dd = some (.lst accv) ∧ Rps X.K H' accv acc ∧ ¬ Owd σ' (wipe σv (own.map (·.2))) Dd ∧ acc.length ≤ i ∧ Ext H1 H' ∧
      lcD (own.map (·.2)) g tt te (ds.drop i) acc σ' (fun acc σ2 => Q (.lst acc) σ2), ?_, ?_⟩
  · refine ⟨ds.length, by simp, Nat.zero_le _, forget σ1 (own.map (·.2)), [], [], (g1.same smD).forget, (x1.trans (Mv.same smD)).trans (Mv.shrink fun a => owd_forget), upd_same, .nil, fun z => g1.not_own nD (owd_forget z), Nat.zero_le _, Ext.same smD, by simpa using q1⟩
  · rintro i m H2 ⟨rfl, hi, σ2, acc, accv, g2, x2, hD, hR, nO, hl, e2, q2⟩
    obtain ⟨it1, it2⟩ := it i H2 e2
    by_cases hlt : i < ds.length
    · obtain ⟨go, yl⟩ := it1 hlt
      refine .inr ⟨go, fun H' => ∃ σ' acc accv, Gd X.K c σ' (wipe σv (own.map (·.2))) H' ∧ Mv σ σv H σ' (wipe σv (own.map (·.2))) H' ∧ H' Dd = some (.lst accv) ∧ Rps X.K H' accv acc ∧ ¬ Owd σ' (wipe σv (own.map (·.2))) Dd ∧ acc.length ≤ i + 1 ∧ Ext H1 H' ∧
        lcD (own.map (·.2)) g tt te (ds.drop (i + 1)) acc σ' (fun acc σ2 => Q (.lst acc) σ2), fun H' h => ⟨ds.length - (i + 1), by omega, rfl, hlt, h⟩, fun x H3 hy => ?_⟩
      obtain ⟨sm, d, e1, r1⟩ := yl x H3 hy
      rw [List.drop_eq_getElem_cons hlt] at q2
      rw [List.getElem?_eq_getElem hlt] at e1
      cases e1
      intro f
      refine (fG f).2 _ σ2 _ x H3 _ _ (g2.same sm) r1 q2 fun σ4 σv4 g4 x4 l4 c4 q4 => ?_
      have we : wipe σv4 (own.map (·.2)) = wipe σv (own.map (·.2)) := wipe_eq (by rw [l4, wipe_length]) fun j hj => (c4 j fun z => hj (hs j z)).trans (wipe_none σv hj)
      refine ⟨we, fun f2 => ?_⟩
      have up4 : Up n σ4 σv4 H3 := up.trans ((x2.trans (Mv.same sm)).trans x4)
      refine (fT f2).2 σ4 σv4 H3 _ _ g4 up4 q4 fun b σ5 H5 g5 x5 q5 => ?_
      have nO4 : H3 Dd = some (.lst accv) ∧ ¬ Owd σ4 σv4 Dd := x4.kp Dd _ (sm Dd _ hD) nO
      have nO5 := x5.kp Dd _ nO4.1 nO4.2
      have x25 : Mv σ2 (wipe σv (own.map (·.2))) H2 σ5 σv4 H5 := ((Mv.same sm).trans x4).trans x5
      cases b with
      | false =>
        rw [if_neg (by decide)] at q5 ⊢
        refine ⟨forget σ5 (own.map (·.2)), acc, accv, we ▸ g5.forget, we ▸ ((x2.trans x25).trans (Mv.shrink fun a => owd_forget)), nO5.1, hR.ext x25.ext, fun z => nO5.2 (by rw [← we] at z; exact owd_forget z), by omega, e2.trans x25.ext, q5⟩
      | true =>
        rw [if_pos rfl] at q5 ⊢
        intro f3
        refine (fE f3).2 σ5 σv4 H5 _ _ g5 (up4.trans x5) q5 fun y σ6 v6 H6 g6 x6 r6 q6 => ?_
        have nO6 := x6.kp Dd _ nO5.1 nO5.2
        have x26 := x25.trans x6
        refine ⟨accv, nO6.1, ?_, ?_⟩
        · have := hR.length
          omega
        · have ex : Ext H6 (upd H6 Dd (.lst (accv ++ [v6]))) := Ext.chg nO6.1 (stabL_none nO6.1)
          have g7 : Gd X.K c σ6 σv4 (upd H6 Dd (.lst (accv ++ [v6]))) := g6.other nO6.2 ex
          have x7 : Mv σ σv H σ6 σv4 (upd H6 Dd (.lst (accv ++ [v6]))) := by
            have x := x2.trans x26
            refine ⟨x.ext.trans ex, fun b o h nb => ?_, fun b o h => ?_⟩
            · obtain ⟨h1, h2⟩ := x.kp b o h nb
              have ne : b ≠ Dd := fun z => by subst z; rw [nH] at h; cases h
              exact ⟨by rw [upd_ne ne]; exact h1, h2⟩
            · by_cases z : b = Dd
              · subst z; exact ⟨_, upd_same⟩
              · rw [upd_ne z]; exact x.dom b o h
          refine ⟨forget σ6 (own.map (·.2)), acc ++ [y], accv ++ [v6], we ▸ g7.forget, we ▸ (x7.trans (Mv.shrink fun a => owd_forget)), upd_same, (hR.ext (x26.ext.trans ex)).append (.cons (r6.ext ex) .nil), fun z => nO6.2 (by rw [← we] at z; exact owd_forget z), by rw [List.length_append, List.length_singleton]; omega, (e2.trans x26.ext).trans ex, q6⟩
    · have e : i = ds.length := by omega
      subst e
      rw [List.drop_length] at q2
      refine .inl ⟨it2 (Nat.le_refl _), ?_⟩
      have gU : Gd X.K c σ2 σv H2 := g2.unwipe
      have ow : ∀ a, Owd σ2 σv a → Owd σ2 (wipe σv (own.map (·.2))) a := fun a ⟨i, m, h1, h2⟩ => by
        obtain ⟨b, h3, _⟩ := g2.ow i m h1
        have := (wipe_some h3).1
        rw [h2] at this
        cases this
        exact ⟨i, m, h1, h3⟩
      exact k (.lst acc) σ2 Dd H2 gU ⟨x2.ext, fun a o h n => let ⟨h1, h2⟩ := x2.kp a o h n; ⟨h1, fun z => h2 (ow a z)⟩, x2.dom⟩ ⟨⟨accv, hD, hR⟩, nH, fun z => nO (ow Dd z)⟩ q2
theorem dem_lc {scope : Scope} {own : List (Str × Nat)} {ti : DA} {g : GT} {is : List Nat} {tt : DB} {te : DV} (hc : X.calm = true) (hN : X.N.Nodup) (hi : DI X c tg iter ti) (ok : BlkOk X.N X.env.scope scope own) (hs : ∀ i ∈ is, i ∈ own.map (·.2))
    (hg : ∀ f : BF, DG (bX X scope f) c tg is g) (ht : ∀ f : BF, DTt (bX X scope f) c ifs tt) (he : ∀ f : BF, DEv (bX X scope f) c e te) (hf : ∀ x, foldedSetIterable iter X.env x = pure x := by intro _; rfl) :
    DEm X c (.ListComp e [⟨tg, iter, ifs, 0⟩] scope pos) (dLc (own.map (·.2)) ti g tt te) := fun n W tk => by
  obtain ⟨wi, pi, hri⟩ := hi n W tk
  obtain ⟨gv, ttv, tev, pg, pt, pe, hr⟩ := lc_read hri hs hg ht he
  exact ⟨_, pe_lc hc hN pi ok (fun s H C cl fp => pg ⟨s, H, C, cl, fp⟩) (fun s H C cl fp => pt ⟨s, H, C, cl, fp⟩) (fun s H C cl fp => pe ⟨s, H, C, cl, fp⟩) hf, hr⟩
/-- name = [..]: the name holds the new list -/
theorem st_lc (i : Nat) {scope : Scope} {own : List (Str × Nat)} {ti : DA} {g : GT} {is : List Nat} {tt : DB} {te : DV} {y : Str} {py spos : Pos} (hc : X.calm = true) (hN : X.N.Nodup) (hp : c.pa.length ≤ i) (hi : DI X c tg iter ti) (ok : BlkOk X.N X.env.scope scope own) (hs : ∀ i ∈ is, i ∈ own.map (·.2))
    (hg : ∀ f : BF, DG (bX X scope f) c tg is g) (ht : ∀ f : BF, DTt (bX X scope f) c ifs tt) (he : ∀ f : BF, DEv (bX X scope f) c e te) (hy : X.N[i]? = some y := by rfl) (hyl : X.env.scope.names.lookup y = some .local := by rfl)
    (hsw : swapsWith (.ListComp e [⟨tg, iter, ifs, 0⟩] scope pos) (some (.Name y py)) spos.line X.env = pure true := by exact sw_true rfl rfl rfl (by decide +kernel)) (hf : ∀ x, foldedSetIterable iter X.env x = pure x := by intro _; rfl) :
    DSt X c (.Assign [.Name y py] (.ListComp e [⟨tg, iter, ifs, 0⟩] scope pos) spos) (sSetM i (dLc (own.map (·.2)) ti g tt te)) := fun n W tk => by
  obtain ⟨wi, pi, hri⟩ := hi n W tk
  obtain ⟨gv, ttv, tev, pg, pt, pe, hr⟩ := lc_read hri hs hg ht he
  refine ⟨_, ps_setLc (i := i) hc hN hy hyl hsw pi ok (fun s H C cl fp => pg ⟨s, H, C, cl, fp⟩) (fun s H C cl fp => pt ⟨s, H, C, cl, fp⟩) (fun s H C cl fp => pe ⟨s, H, C, cl, fp⟩) hf, fun Dn σ σv H Dv ex gd up q r => ?_⟩
  subst ex
  refine hr σ σv H _ _ gd up q fun m σ1 a H1 g1 x1 f q1 => r.nx _ _ _ (g1.setOw f.rep f.out fun b hb => ?_) (x1.setOw f.new) q1
  rw [List.getElem?_eq_none hp] at hb
  cases hb
end
end DL
namespace DL
open PySem PySem.Spec PyProof.Rows L2

/-! ### data as the library reads them -/
section
variable {X : Cx} {pins : List (Addr × Obj)} {σ : VS} {H : Hp} {s : Shared}
theorem not_mods (B : X.base.NoSeer) (I : Inv X pins σ H s) {a : Addr} {o : Obj} (e : s.heap.get? a = some o) (hd : ∀ es ep, o.data ≠ .dict es ep) : a ≠ sysModules := fun z => by
  subst z
  obtain ⟨mm, ⟨o', es, ep, e', d, _⟩, _⟩ := B.mods
  have := I.bk _ _ e'
  rw [e] at this
  cases this
  exact hd es ep d
theorem keysR (I : Inv X pins σ H s) : ∀ {es : List DictEntry} {vs : List (Key × Value)}, Pairs (mixKind X.prog X.w) es vs → ReadsAll s.heap (es.map (·.key)) (vs.map (fun p => keyD p.1)) []
  | _, _, .nil => .nil
  | e :: es, p :: vs, .cons h1 h2 r => by
    have t := keysR I r
    have hd : Reads s.heap e.key (keyD p.1) [] := by
      obtain ⟨k, v⟩ := p
      rcases keyIs_shape (show keyIs k e.key = true from h1) with ⟨i, t, rfl, q⟩ | ⟨x, t, rfl, q⟩
      · rw [q]; exact .int i t
      · rw [q]; exact .str x t
    exact ReadsAll.cons (as := []) (bs := []) hd t
theorem pairs_vals {P : Program} {w : World} : ∀ {es : List DictEntry} {vs : List (Key × Value)}, Pairs (mixKind P w) es vs → es.map (·.val) = vs.map (·.2)
  | _, _, .nil => rfl
  | _, _, .cons _ h r => by simp [h, pairs_vals r]
theorem kv_vals : ∀ {ks : List (Key × V)} {vs : List (Key × Value)}, KV ks vs → Vals (ks.map (·.2)) (vs.map (·.2)) ∧ ks.map (·.1) = vs.map (·.1)
  | _, _, .nil => ⟨.nil, rfl⟩
  | _, _, .cons h r => ⟨.cons h.2 (kv_vals r).1, by simp [h.1, (kv_vals r).2]⟩
mutual
theorem Rp.reads (B : X.base.NoSeer) (I : Inv X pins σ H s) : ∀ {v : V} {d : D} {u : Value}, Rp X.K H v d → RelV v u → ∃ as, Reads s.heap u d as ∧ sysModules ∉ as
  | _, _, _, .non, r => by cases r; exact ⟨_, .none, by simp⟩
  | _, _, _, .bl b, r => by cases r; exact ⟨_, .bool b, by simp⟩
  | _, _, _, .int i, r => by obtain ⟨t, rfl⟩ := r; exact ⟨_, .int i t, by simp⟩
  | _, _, _, .str x, r => by obtain ⟨t, rfl⟩ := r; exact ⟨_, .str x t, by simp⟩
  | _, _, _, .lst h1 h2, r => by
    cases r
    obtain ⟨_, its, n, rv, e⟩ := (rdl_un h1).ok I.hok
    obtain ⟨as, r1, n1⟩ := Rps.reads B I h2 rv
    exact ⟨_, .list e rfl rfl r1, by simp [n1, Ne.symm (not_mods B I e (by intro _ _ z; cases z))]⟩
  | _, _, _, .tup h1 h2, r => by
    cases r
    obtain ⟨its, rv, ⟨o, ho, hc, n, hd⟩, _⟩ := I.tuple (SqT.un h1)
    obtain ⟨as, r1, n1⟩ := Rps.reads B I h2 rv
    exact ⟨_, .tuple ho hc hd r1, n1⟩
  | _, _, _, .dct (a := a) (ks := ks) (ds := ds) h1 h2, r => by
    cases r
    obtain ⟨_, z, hs, vs, kv, o, es, ep, ho, hx, hd, _, pr, _⟩ := I.hok a _ h1
    obtain ⟨rv, ek⟩ := kv_vals kv
    have l1 : ds.length = ks.length := by have := h2.length; rw [List.length_map] at this; exact this.symm
    obtain ⟨as, r1, n1⟩ := Rps.reads B I h2 rv
    have k1 := keysR I pr
    have ek2 : vs.map (fun p => keyD p.1) = ks.map (fun p => keyD p.1) := by
      have a1 : vs.map (fun p => keyD p.1) = (vs.map (·.1)).map keyD := by rw [List.map_map]; rfl
      have a2 : ks.map (fun p => keyD p.1) = (ks.map (·.1)).map keyD := by rw [List.map_map]; rfl
      rw [a1, a2, ek]
    refine ⟨a :: [] ++ as, Reads.dict (as := []) (bs := as) ho hx.1 hd ?_ ?_, ?_⟩
    · rw [List.map_fst_zip (by rw [List.length_map]; omega), ← ek2]
      exact k1
    · rw [List.map_snd_zip (by rw [List.length_map]; omega), pairs_vals pr]
      exact r1
    · have ns : ¬ a = sysModules := fun z => by rw [z] at hs; simp at hs
      simp [n1, Ne.symm ns]
theorem Rps.reads (B : X.base.NoSeer) (I : Inv X pins σ H s) : ∀ {vs : List V} {ds : List D} {us : List Value}, Rps X.K H vs ds → Vals vs us → ∃ as, ReadsAll s.heap us ds as ∧ sysModules ∉ as
  | _, _, _, .nil, r => by cases r; exact ⟨_, .nil, by simp⟩
  | _, _, _, .cons h1 h2, r => by
    cases r with
    | cons r1 r2 =>
      obtain ⟨as, q1, n1⟩ := Rp.reads B I h1 r1
      obtain ⟨bs, q2, n2⟩ := Rps.reads B I h2 r2
      exact ⟨_, .cons q1 q2, by simp [n1, n2]⟩
end
theorem VR.reads (B : X.base.NoSeer) (I : Inv X pins σ H s) {v : V} {d : D} {u : Value} (h : VR X.K H v d) (r : RelV v u) : ∃ as, Reads s.heap u d as ∧ sysModules ∉ as := by
  rcases h with h | ⟨a, m, rfl, hm, rfl⟩
  · exact h.reads B I r
  · obtain ⟨w, h4, h5, h6⟩ := hm.lock
    obtain ⟨o, J⟩ := inv_lock I h4 h5
    exact (h6 o).2.reads B J r
end

/-! ### operators -/
section
variable {X : Cx} {c : DC}
theorem opr_or {f : Value → Value → Sem Value} {r r' : R2} (h : OpR X f r) (h' : OpR X f r') : OpR X f (fun x y H Q => r x y H Q ∨ r' x y H Q) := fun pins s σ H x y v u Q I rx ry q => by
  rcases q with q | q
  · exact h pins s σ H x y v u Q I rx ry q
  · exact h' pins s σ H x y v u Q I rx ry q
def rCatL : R2 := fun x y H Q => ∃ l b xs zs, x = .ref l ∧ y = .ref b ∧ Rd H l (.lst xs) ∧ Rd H b (.lst zs) ∧ xs.length + zs.length ≤ sizeLine ∧ ∀ p, H p = none → Q (.ref p) (upd H p (.lst (xs ++ zs)))
theorem op_catL : OpR X (binaryOp .Add) rCatL := fun pins s σ H x y v u Q I rx ry ⟨l, b, xs, zs, ex, ey, hH, hB, hz, q⟩ => by
  subst ex
  subst ey
  cases rx
  cases ry
  obtain ⟨_, its, n, r, e⟩ := hH.ok I.hok
  obtain ⟨_, its2, n2, r2, e2⟩ := hB.ok I.hok
  have l1 := r.length
  have l2 := r2.length
  refine PySem.P.add_list e e2 ?_ (by simp; omega)
  rw [show its.toArray ++ its2.toArray = (its ++ its2).toArray by simp]
  exact ⟨.ref _, _, I.lnew (t' := s.toks) (r.append r2) (by simp; omega), rfl, q _ I.fresh⟩
def addD : OD
  | .int i, .int j, k => k (.int (i + j))
  | .str x, .str y, k => x.length + y.length ≤ sizeLine ∧ k (.str (x ++ y))
  | .tuple xs, .tuple ys, k => xs.length + ys.length ≤ sizeLine ∧ k (.tuple (xs ++ ys))
  | .list xs, .list ys, k => xs.length + ys.length ≤ sizeLine ∧ k (.list (xs ++ ys))
  | _, _, _ => False
theorem op_addD : OpD X (binaryOp .Add) addD := by
  refine ⟨_, opr_or op_add (opr_or op_add_str (opr_or op_catA op_catL)), fun x y v u H Qv Q rx ry h k => ?_⟩
  unfold addD at h
  split at h
  · cases rx.int; cases ry.int
    exact .inl ⟨_, _, rfl, rfl, k _ _ _ (.here (.int _)) h⟩
  · cases rx.str; cases ry.str
    exact .inr (.inl ⟨_, _, rfl, rfl, h.1, k _ _ _ (.here (.str _)) h.2⟩)
  · obtain ⟨a, xs, rfl, h1, h2, h3⟩ := rx.tup
    obtain ⟨b, ys, rfl, h4, h5, h6⟩ := ry.tup
    refine .inr (.inr (.inl ⟨a, b, xs, ys, rfl, rfl, h1, h4, by rw [h3.length, h6.length]; exact h.1, fun e => ?_, fun _ e => ?_, fun _ _ p hp => k _ _ _ (.tup hp (h3.append h6)) h.2⟩))
    · subst e
      cases h3
      exact k _ _ _ (.here (.tup h5 h6)) h.2
    · subst e
      cases h6
      have := h.2
      rw [List.append_nil] at this
      exact k _ _ _ (.here (.tup h2 h3)) this
  · obtain ⟨a, xs, rfl, h1, h3⟩ := rx.lst
    obtain ⟨b, ys, rfl, h4, h6⟩ := ry.lst
    exact .inr (.inr (.inr ⟨a, b, xs, ys, rfl, rfl, h1, h4, by rw [h3.length, h6.length]; exact h.1, fun p hp => k _ _ _ (.lst hp (h3.append h6)) h.2⟩))
  · exact h.elim
def catM : OM
  | .list xs, .list ys, k => xs.length + ys.length ≤ sizeLine ∧ k (.lst (xs ++ ys))
  | _, _, _ => False
theorem op_catM : OpM X (binaryOp .Add) catM := by
  refine ⟨_, op_catL, fun x y v u H Qv Q rx ry h k => ?_⟩
  unfold catM at h
  split at h
  · obtain ⟨a, xs, rfl, h1, h3⟩ := rx.lst
    obtain ⟨b, ys, rfl, h4, h6⟩ := ry.lst
    exact ⟨a, b, xs, ys, rfl, rfl, h1, h4, by rw [h3.length, h6.length]; exact h.1, fun p hp => k _ _ _ (.lst hp (h3.append h6)) h.2⟩
  · exact h.elim
def iiD (C : Int → Int → Prop) (f : Int → Int → D) : OD
  | .int i, .int j, k => C i j ∧ k (f i j)
  | _, _, _ => False
theorem iid {f : Value → Value → Sem Value} {C : Int → Int → Prop} {g : Int → Int → V} {gd : Int → Int → D} (h : OpR X f (rI C g)) (hg : ∀ (H : Hp) (i j : Int), Rp X.K H (g i j) (gd i j)) : OpD X f (iiD C gd) :=
  ⟨_, h, fun x y v u H Qv Q rx ry q k => by
    unfold iiD at q
    split at q
    · cases rx.int; cases ry.int
      exact ⟨_, _, rfl, rfl, q.1, k _ _ _ (.here (hg H _ _)) q.2⟩
    · exact q.elim⟩
def ii0 (f : Int → Int → D) : OD
  | .int i, .int j, k => k (f i j)
  | _, _, _ => False
theorem iid0 {f : Value → Value → Sem Value} {g : Int → Int → V} {gd : Int → Int → D} (h : OpR X f (rI0 g)) (hg : ∀ (H : Hp) (i j : Int), Rp X.K H (g i j) (gd i j)) : OpD X f (ii0 gd) :=
  ⟨_, h, fun x y v u H Qv Q rx ry q k => by
    unfold ii0 at q
    split at q
    · cases rx.int; cases ry.int
      exact ⟨_, _, rfl, rfl, k _ _ _ (.here (hg H _ _)) q⟩
    · exact q.elim⟩
abbrev subD : OD := ii0 fun i j => .int (i - j)
theorem op_subD : OpD X (binaryOp .Sub) subD := iid0 op_sub fun _ _ _ => .int _
/-- products: one factor short, or both together within the line -/
structure MulFit (i j : Int) : Prop where
  ok : IntMulOk i j
theorem op_mulI : OpR X (binaryOp .Mult) (rI MulFit fun i j => .int (i * j)) := opI fun _ _ _ _ _ _ _ hc q => mul_int q hc.ok
abbrev mulD : OD := iiD MulFit fun i j => .int (i * j)
theorem op_mulD : OpD X (binaryOp .Mult) mulD := iid op_mulI fun _ _ _ => .int _
abbrev fdivD : OD := iiD (fun _ j => j ≠ 0 ∧ j.natAbs.log2 < 9000) fun i j => .int (i.fdiv j)
theorem op_fdivI : OpR X (binaryOp .FloorDiv) (rI (fun _ j => j ≠ 0 ∧ j.natAbs.log2 < 9000) fun i j => .int (i.fdiv j)) := opI fun _ _ _ _ _ _ _ hc q => floordiv_int hc.1 q (.inl (PyProof.noPylong_of_log2 hc.2))
theorem op_fdivD : OpD X (binaryOp .FloorDiv) fdivD := iid op_fdivI fun _ _ _ => .int _
abbrev modD : OD := iiD (fun _ j => j ≠ 0) fun i j => .int (i.fmod j)
theorem op_modD : OpD X (binaryOp .Mod) modD := iid op_modN fun _ _ _ => .int _
abbrev powD : OD := iiD (fun i j => 0 ≤ j ∧ j ≤ 1000000 ∧ i.natAbs < 2 ^ 64) fun i j => .int (i ^ j.toNat)
theorem op_powD : OpD X (binaryOp .Pow) powD := iid op_pow fun _ _ _ => .int _
abbrev ltD : OD := ii0 fun i j => .bool (decide (i < j))
abbrev leD : OD := ii0 fun i j => .bool (decide (i ≤ j))
abbrev gtD : OD := ii0 fun i j => .bool (decide (j < i))
abbrev geD : OD := ii0 fun i j => .bool (decide (j ≤ i))
theorem op_ltD : OpD X (compareOp .Lt) ltD := iid0 op_lt fun _ _ _ => .bl _
theorem op_leD : OpD X (compareOp .LtE) leD := iid0 op_le fun _ _ _ => .bl _
theorem op_gtD : OpD X (compareOp .Gt) gtD := iid0 op_gt fun _ _ _ => .bl _
theorem op_geD : OpD X (compareOp .GtE) geD := iid0 op_ge fun _ _ _ => .bl _
/-- == and != of any data without dicts -/
def eqD : OD := fun x y k => SeqAt.shaped x = true ∧ SeqAt.shaped y = true ∧ k (.bool (PyData.eqv x y))
def neD : OD := fun x y k => SeqAt.shaped x = true ∧ SeqAt.shaped y = true ∧ k (.bool (!PyData.eqv x y))
def rDat (K : PySem.W.Frag) (f : D → D → Bool) : R2 := fun v u H Q => ∃ x y, VR K H v x ∧ VR K H u y ∧ SeqAt.shaped x = true ∧ SeqAt.shaped y = true ∧ Q (.bl (f x y)) H
theorem op_eqD {k : Nat} (hr : RoomG k X.A) (B : BaseG X.prog X.base) : OpD X (compareOp .Eq) eqD :=
  ⟨rDat X.K fun x y => PyData.eqv x y, fun pins s σ H v u v' u' Q I rx ry ⟨x, y, hx, hy, sx, sy, q⟩ => by
    obtain ⟨as, r1, _⟩ := hx.reads B.seer I rx
    obtain ⟨bs, r2, _⟩ := hy.reads B.seer I ry
    exact SeqAt.compareEq_shaped r1 r2 sx sy hr.room.units ⟨.bl _, H, I, rfl, q⟩,
   fun x y v u H Qv Q rx ry q k => ⟨x, y, rx, ry, q.1, q.2.1, k _ _ _ (.here (.bl _)) q.2.2⟩⟩
theorem op_neD {k : Nat} (hr : RoomG k X.A) (B : BaseG X.prog X.base) : OpD X (compareOp .NotEq) neD :=
  ⟨rDat X.K fun x y => !PyData.eqv x y, fun pins s σ H v u v' u' Q I rx ry ⟨x, y, hx, hy, sx, sy, q⟩ => by
    obtain ⟨as, r1, _⟩ := hx.reads B.seer I rx
    obtain ⟨bs, r2, _⟩ := hy.reads B.seer I ry
    exact SeqAt.compareNe_shaped r1 r2 sx sy hr.room.units ⟨.bl _, H, I, rfl, q⟩,
   fun x y v u H Qv Q rx ry q k => ⟨x, y, rx, ry, q.1, q.2.1, k _ _ _ (.here (.bl _)) q.2.2⟩⟩
/-- is, is not, the right one None, True or False -/
def isNone : D → Bool
  | .none => true
  | _ => false
def isD : OD
  | x, .none, k => k (.bool (isNone x))
  | .bool a, .bool b, k => k (.bool (decide (a = b)))
  | _, _, _ => False
theorem vr_none {K : PySem.W.Frag} {H : Hp} {v : V} {x : D} (h : VR K H v x) : decide (v = .non) = isNone x := by
  cases x with
  | none => cases h.none; rfl
  | bool b => cases h.bool; rfl
  | int i => cases h.int; rfl
  | str y => cases h.str; rfl
  | list ds => obtain ⟨a, xs, rfl, _⟩ := h.lst; rfl
  | tuple ds => obtain ⟨a, xs, rfl, _⟩ := h.tup; rfl
  | dict ds =>
    rcases h with h | ⟨a, m, rfl, _, _⟩
    · cases h; rfl
    · rfl
def isNotD : OD
  | x, .none, k => k (.bool (!isNone x))
  | .bool a, .bool b, k => k (.bool (!decide (a = b)))
  | _, _, _ => False
theorem neg_int {i : Int} : (.int (-i) : D) = .int (-i) := rfl
section
variable {a : Expr} {pos : Pos} {t : DT}
def vNeg (t : DT) : DV := fun W σ Q => t W σ fun r σ1 => vw σ1 r fun d => asInt d fun i => Q (.int (-i)) σ1
theorem dev_neg (h : DE X c a t) : DEv X c (.UnaryOp .USub a pos) (vNeg t) := fun n W tk => by
  obtain ⟨tv, pe, hr⟩ := h n W tk
  refine ⟨_, pe_un un_neg pe, fun σ σv H Q Qv g up q k => ?_⟩
  refine hr σ σv H _ _ g up q fun r σ1 v H1 g1 x1 rr q1 => ?_
  obtain ⟨d, e1, q2⟩ := vw_of q1
  cases d <;> first | exact q2.elim | skip
  next i => exact ⟨i, (g1.view rr e1).int, k _ _ _ _ g1 x1 (.int _) q2⟩
end
def bbD (f : Bool → Bool → Bool) : OD
  | .bool a, .bool b, k => k (.bool (f a b))
  | _, _, _ => False
theorem op_isB : OpD X (compareOp .Is) (bbD fun a b => decide (a = b)) := ⟨_, op_isBl, fun x y v u H Qv Q rx ry q k => by
  unfold bbD at q
  split at q
  · cases rx.bool; cases ry.bool
    exact ⟨_, _, rfl, rfl, k _ _ _ (.here (.bl _)) q⟩
  · exact q.elim⟩
theorem op_notB : OpD X (compareOp .IsNot) (bbD fun a b => !decide (a = b)) := ⟨_, op_notBl, fun x y v u H Qv Q rx ry q k => by
  unfold bbD at q
  split at q
  · cases rx.bool; cases ry.bool
    exact ⟨_, _, rfl, rfl, k _ _ _ (.here (.bl _)) q⟩
  · exact q.elim⟩
section
variable {a : Expr} {pos pos' : Pos} {t : DT} {j : Nat}
def vIsN (f : Bool → Bool) (t : DT) : DV := fun W σ Q => t W σ fun r σ1 => vw σ1 r fun d => Q (.bool (f (isNone d))) σ1
def bIsN (f : Bool → Bool) (t : DT) : DB := fun W σ Q => t W σ fun r σ1 => vw σ1 r fun d => Q (f (isNone d)) σ1
theorem dev_isN (h : DE X c a t) : DEv X c (.Compare a [.Is] [.Constant .none j pos'] pos) (vIsN (fun b => b) t) := fun n W tk => by
  obtain ⟨tv, pe, hr⟩ := h n W tk
  refine ⟨_, pe_cmp (pc_isN pe) (nobehind _ (by decide) (by decide)), fun σ σv H Q Qv g up q k => ?_⟩
  refine hr σ σv H _ _ g up q fun r σ1 v H1 g1 x1 rr q1 => ?_
  obtain ⟨d, e1, q2⟩ := vw_of q1
  show Qv (.bl (decide (v = .non))) H1
  rw [vr_none (g1.view rr e1)]
  exact k _ _ _ _ g1 x1 (.bl _) q2
theorem dev_notN (h : DE X c a t) : DEv X c (.Compare a [.IsNot] [.Constant .none j pos'] pos) (vIsN not t) := fun n W tk => by
  obtain ⟨tv, pe, hr⟩ := h n W tk
  refine ⟨_, pe_cmp (pc_notN pe) (nobehind _ (by decide) (by decide)), fun σ σv H Q Qv g up q k => ?_⟩
  refine hr σ σv H _ _ g up q fun r σ1 v H1 g1 x1 rr q1 => ?_
  obtain ⟨d, e1, q2⟩ := vw_of q1
  show Qv (.bl (!decide (v = .non))) H1
  rw [vr_none (g1.view rr e1)]
  exact k _ _ _ _ g1 x1 (.bl _) q2
theorem db_isN (h : DE X c a t) : DBt X c (.Compare a [.Is] [.Constant .none j pos'] pos) (bIsN (fun b => b) t) := fun n W tk => by
  obtain ⟨tv, pe, hr⟩ := h n W tk
  refine ⟨_, pt_cmp (pc_isN pe) (nobehind _ (by decide) (by decide)), fun σ σv H Q Qv g up q k => ?_⟩
  refine hr σ σv H _ _ g up q fun r σ1 v H1 g1 x1 rr q1 => ?_
  obtain ⟨d, e1, q2⟩ := vw_of q1
  refine ⟨_, rfl, ?_⟩
  rw [vr_none (g1.view rr e1)]
  exact k _ _ _ g1 x1 q2
theorem db_notN (h : DE X c a t) : DBt X c (.Compare a [.IsNot] [.Constant .none j pos'] pos) (bIsN not t) := fun n W tk => by
  obtain ⟨tv, pe, hr⟩ := h n W tk
  refine ⟨_, pt_cmp (pc_notN pe) (nobehind _ (by decide) (by decide)), fun σ σv H Q Qv g up q k => ?_⟩
  refine hr σ σv H _ _ g up q fun r σ1 v H1 g1 x1 rr q1 => ?_
  obtain ⟨d, e1, q2⟩ := vw_of q1
  refine ⟨_, rfl, ?_⟩
  rw [vr_none (g1.view rr e1)]
  exact k _ _ _ g1 x1 q2
end

/-! ### built-ins -/
def absD : CD
  | [.int i], k => k (.int (if i < 0 then -i else i))
  | _, _ => False
theorem call_absD : CallD X (.builtin "abs") absD := ⟨_, call_abs, fun ds vs H Qv Q r q k => by
  unfold absD at q
  split at q
  · cases r with
    | cons h1 h2 => cases h2; cases h1.int; exact ⟨_, rfl, k _ _ _ (.here (.int _)) q⟩
  · exact q.elim⟩
def lenD : CD
  | [.list xs], k => k (.int xs.length)
  | [.tuple xs], k => k (.int xs.length)
  | [.str x], k => x.length ≤ sizeLine ∧ k (.int x.length)
  | _, _ => False
theorem call_lenD : CallD X (.builtin "len") lenD := ⟨_, call_len, fun ds vs H Qv Q r q k => by
  unfold lenD at q
  split at q
  · cases r with
    | cons h1 h2 =>
      cases h2
      obtain ⟨a, xs, rfl, e1, e2⟩ := h1.lst
      exact ⟨_, _, rfl, .inl ⟨xs, .inl e1, rfl⟩, by rw [e2.length]; exact k _ _ _ (.here (.int _)) q⟩
  · cases r with
    | cons h1 h2 =>
      cases h2
      obtain ⟨a, xs, rfl, e1, _, e2⟩ := h1.tup
      exact ⟨_, _, rfl, .inr ⟨xs, e1, rfl⟩, by rw [e2.length]; exact k _ _ _ (.here (.int _)) q⟩
  · cases r with
    | cons h1 h2 =>
      cases h2
      cases h1.str
      exact ⟨_, _, rfl, ⟨q.1, rfl⟩, k _ _ _ (.here (.int _)) q.2⟩
  · exact q.elim⟩
def intCD : CD
  | [.int i], k => k (.int i)
  | [.bool b], k => k (.int (if b then 1 else 0))
  | _, _ => False
theorem call_intCD : CallD X (.type "int") intCD := ⟨_, call_int1, fun ds vs H Qv Q r q k => by
  unfold intCD at q
  split at q
  · cases r with
    | cons h1 h2 => cases h2; cases h1.int; exact .inl ⟨_, rfl, k _ _ _ (.here (.int _)) q⟩
  · cases r with
    | cons h1 h2 => cases h2; cases h1.bool; exact .inr ⟨_, rfl, k _ _ _ (.here (.int _)) q⟩
  · exact q.elim⟩
def listM : CM
  | [.list xs], k => k (.lst xs)
  | [.tuple xs], k => k (.lst xs)
  | _, _ => False
theorem call_listM : CallM X (.type "list") listM := ⟨_, call_list_of, fun ds vs H Qv Q r q k => by
  unfold listM at q
  split at q
  · cases r with
    | cons h1 h2 =>
      cases h2
      obtain ⟨a, xs, rfl, e1, e2⟩ := h1.lst
      exact ⟨_, xs, rfl, .inl (.inl e1), fun l hl => k _ _ _ (.lst hl e2) q⟩
  · cases r with
    | cons h1 h2 =>
      cases h2
      obtain ⟨a, xs, rfl, e1, _, e2⟩ := h1.tup
      exact ⟨_, xs, rfl, .inr e1, fun l hl => k _ _ _ (.lst hl e2) q⟩
  · exact q.elim⟩
def tupleD : CD
  | [.list xs], k => k (.tuple xs)
  | [.tuple xs], k => k (.tuple xs)
  | _, _ => False
theorem call_tupleD : CallD X (.type "tuple") tupleD := ⟨_, call_tuple_of, fun ds vs H Qv Q r q k => by
  unfold tupleD at q
  split at q
  · cases r with
    | cons h1 h2 =>
      cases h2
      obtain ⟨a, xs, rfl, e1, e2⟩ := h1.lst
      exact ⟨_, xs, rfl, .inl ⟨.inl e1, fun l hl => k _ _ _ (.tup hl e2) q⟩⟩
  · cases r with
    | cons h1 h2 =>
      cases h2
      obtain ⟨a, xs, rfl, e1, e3, e2⟩ := h1.tup
      exact ⟨_, xs, rfl, .inr ⟨e1, k _ _ _ (.here (.tup e3 e2)) q⟩⟩
  · exact q.elim⟩
def reprD : CD
  | [d], k => d.showable = true ∧ d.depth ≤ 40 ∧ d.shown.length ≤ sizeLine ∧ k (.str d.shown)
  | _, _ => False
theorem vals1' {x : V} {us : List Value} (r : Vals [x] us) : ∃ u, us = [u] ∧ RelV x u := by
  cases r with
  | cons h t => cases t; exact ⟨_, rfl, h⟩
theorem call_reprD {kk : Nat} (hr : RoomG kk X.A) (B : BaseG X.prog X.base) : CallD X (.builtin "repr") reprD :=
  ⟨fun xs H Q => ∃ v d, xs = [v] ∧ VR X.K H v d ∧ d.showable = true ∧ d.depth ≤ 40 ∧ d.shown.length ≤ sizeLine ∧ Q (.str d.shown) H,
   fun pins s σ H xs us Q I r ⟨v, d, e, hv, h1, h2, h3, q⟩ => by
    subst e
    obtain ⟨u, rfl, ru⟩ := vals1' r
    obtain ⟨as, rd, ns⟩ := hv.reads B.seer I ru
    have hu := hr.room.units
    cases rd with
    | none =>
      have q' : Q (.str "None") H := q
      exact P.repr_of_none ⟨.str _, H, I.tok _, ⟨_, rfl⟩, q'⟩
    | bool b =>
      exact P.repr_of_bool ⟨.str _, H, I.tok _, ⟨_, rfl⟩, q⟩
    | int i t =>
      exact P.repr_of_int (by simpa [PyData.showable] using h1) ⟨.str _, H, I.tok _, ⟨_, rfl⟩, q⟩
    | str x t =>
      exact P.repr_of_str ⟨.str _, H, I.tok _, ⟨_, rfl⟩, q⟩ h3
    | list a1 a2 a3 a4 =>
      exact repr_of_reads' (.list a1 a2 a3 a4) h1 (fun _ => ns) hr.gd (by omega) (fun _ _ e => e) (fun h' u' tk hk => ⟨.str _, H, I.kept (t' := tk) hk, ⟨_, rfl⟩, q⟩) h3
    | tuple a1 a2 a3 a4 =>
      exact repr_of_reads' (.tuple a1 a2 a3 a4) h1 (fun _ => ns) hr.gd (by omega) (fun _ _ e => e) (fun h' u' tk hk => ⟨.str _, H, I.kept (t' := tk) hk, ⟨_, rfl⟩, q⟩) h3
    | dict a1 a2 a3 a4 a5 =>
      exact repr_of_reads' (.dict a1 a2 a3 a4 a5) h1 (fun _ => ns) hr.gd (by omega) (fun _ _ e => e) (fun h' u' tk hk => ⟨.str _, H, I.kept (t' := tk) hk, ⟨_, rfl⟩, q⟩) h3,
   fun ds vs H Qv Q r q k => by
    unfold reprD at q
    split at q
    · cases r with
      | cons h1 h2 => cases h2; exact ⟨_, _, rfl, h1, q.1, q.2.1, q.2.2.1, k _ _ _ (.here (.str _)) q.2.2.2⟩
    · exact q.elim⟩

/-! ### isinstance of a built-in class -/
def clsOf : D → String
  | .none => "NoneType"
  | .bool _ => "bool"
  | .int _ => "int"
  | .str _ => "str"
  | .list _ => "list"
  | .tuple _ => "tuple"
  | .dict _ => "dict"
/-- bool stands under int -/
def isiS (T c : String) : Bool := c == T || (T == "int" && c == "bool")
def isiD (T : String) (d : D) : Bool := isiS T (clsOf d)
theorem kit_all {T : String} (h : (["NoneType", "bool", "int", "str", "list", "tuple", "dict"].all fun c => kitB c T == some (isiS T c)) = true) (d : D) : kitB (clsOf d) T = some (isiD T d) := by
  rw [List.all_eq_true] at h
  have := h (clsOf d) (by cases d <;> simp [clsOf])
  exact eq_of_beq this
theorem tyX_of {K : PySem.W.Frag} {H : Hp} {v : V} {d : D} (r : VR K H v d) : TyX K H v (.type (clsOf d)) := by
  cases d with
  | none => cases r.none; exact .base .non
  | bool b => cases r.bool; exact .base (.bl b)
  | int i => cases r.int; exact .base (.int i)
  | str x => cases r.str; exact .base (.str x)
  | list ds =>
    obtain ⟨a, xs, rfl, h | ⟨o, h⟩, _⟩ := r.lst
    · exact .base (.lst h)
    · exact .base (.frz h)
  | tuple ds =>
    obtain ⟨a, xs, rfl, (h | ⟨o, h⟩) | ⟨o, its, n, h1, h2, _⟩, _⟩ := r.tup
    · exact .base (.tup h)
    · exact .fTuple h
    · exact .kTuple h1 h2
  | dict ds =>
    rcases r with r | ⟨a, m, rfl, hm, e⟩
    · cases r with
      | dct h _ => exact .fDict h
    · cases m with
      | lst _ => cases e
      | dct ks =>
        obtain ⟨kv, h, _⟩ := hm
        exact .base (.dK h)
section
variable {a : Expr} {p p2 pos : Pos} {t : DT} {T : String} {tn : Str}
def vIsi (T : String) (t : DT) : DV := fun W σ Q => t W σ fun r σ1 => vw σ1 r fun d => Q (.bool (isiD T d)) σ1
theorem dev_isi (hg : Gl X "isinstance") (hm : X.mg "isinstance" = none) (hg2 : Gl X tn) (hm2 : X.mg tn = none) (hv2 : bootBuiltins tn = some (.type T)) (hk : ∀ d : D, kitB (clsOf d) T = some (isiD T d)) (h : DE X c a t) (hn2 : tn ≠ "__name__" := by decide +kernel) (hd2 : (tn == ("__debug__" : Str)) = false := by decide +kernel)
    (he : starEach [a, .Name tn p2] X.env = (false, eval a X.env) :: starEach [.Name tn p2] X.env := by rfl) (hpl : (backTo pos (starEach [.Name tn p2] X.env)).any (·.1) = false := by rfl) (hs2 : starEach [.Name tn p2] X.env = (false, eval (.Name tn p2) X.env) :: starEach [] X.env := by rfl) :
    DEv X c (.Call (.Name "isinstance" p) [a, .Name tn p2] [] pos) (vIsi T t) := fun n W tk => by
  obtain ⟨tv, pe, hr⟩ := h n W tk
  refine ⟨_, pe_callB call_isi hg hm (by decide +kernel) (pa_cons pe (pa_cons (pe_bltn (v := .ty T) hg2 hm2 hv2 rfl hn2 hd2) pa_nil hs2) he) (by decide +kernel) (by decide +kernel) he hpl, fun σ σv H Q Qv g up q k => ?_⟩
  refine hr σ σv H _ _ g up q fun r σ1 v H1 g1 x1 rr q1 => ?_
  obtain ⟨d, e1, q2⟩ := vw_of q1
  exact ⟨v, .ty T, _, _, _, rfl, .ty T, tyX_of (g1.view rr e1), kit_ty (hk d), k _ _ _ _ g1 x1 (.bl _) q2⟩
end
theorem kit_int : ∀ d : D, kitB (clsOf d) "int" = some (isiD "int" d) := kit_all (by decide +kernel)
theorem kit_bool : ∀ d : D, kitB (clsOf d) "bool" = some (isiD "bool" d) := kit_all (by decide +kernel)
theorem kit_tuple : ∀ d : D, kitB (clsOf d) "tuple" = some (isiD "tuple" d) := kit_all (by decide +kernel)
theorem kit_list : ∀ d : D, kitB (clsOf d) "list" = some (isiD "list" d) := kit_all (by decide +kernel)
theorem kit_str : ∀ d : D, kitB (clsOf d) "str" = some (isiD "str" d) := kit_all (by decide +kernel)
theorem boot_tuple' : bootBuiltins "tuple" = some (.type "tuple") := by decide +kernel
theorem boot_list' : bootBuiltins "list" = some (.type "list") := by decide +kernel
theorem boot_int' : bootBuiltins "int" = some (.type "int") := by decide +kernel
theorem boot_bool' : bootBuiltins "bool" = some (.type "bool") := by decide +kernel
theorem boot_str' : bootBuiltins "str" = some (.type "str") := by decide +kernel
theorem boot_abs' : bootBuiltins "abs" = some (.builtin "abs") := by decide +kernel
theorem boot_len' : bootBuiltins "len" = some (.builtin "len") := by decide +kernel
theorem boot_repr' : bootBuiltins "repr" = some (.builtin "repr") := by decide +kernel
end
end DL
namespace DL
open PySem PySem.Spec PyProof.Rows L2

/-! ### the law's end -/
/-- from the law's own call to the def's promise; nothing but the script may be tracked at the entry -/
theorem g_law_call {P : Program} {w : World} {K : PySem.W.Frag} {mg mb : Str → Option Value} {k : Nat} {fa a : Addr} {fd : FuncData} {x : Str} {S : DSp} {s₁ : Shared} {vs : List Value} {ns : List Int}
    (kx : K.In s₁.heap) (hns : s₁.heap.Ns mainGlobals mg) (hb : s₁.heap.Ns builtinsNs mb) (hbb : ∀ x : Str, x ≠ "__name__" → mb x = bootBuiltins x) (hlim : s₁.heap.NoLimit) (hseer : s₁.heap.NoSeer) (hdig : ∃ mc, s₁.heap.Ns cStatics mc ∧ mc "sys.int_max_str_digits" = none)
    (htree : P.given.tree = none) (hg : s₁.gens = #[])
    (ha : s₁.heap.get? a = some { cls := .type "list", data := .seq vs.toArray }) (hi : IntsAre vs ns) (hl : ns.length ≤ sizeLine) (hr : RoomG k callerA)
    (F : ∀ base : Heap, K.In base → base.Ns mainGlobals mg → BaseG P base → GFn P w K mg base k fa fd [x] S) (hbind : ∀ (s : Shared) (u : Value), BindsTo s fd ⟨[u], []⟩ [(x, u)])
    (hS : S [.val (.list (ns.map .int))] (fun r _ => r = .d (.bool true)) fun _ _ => False) (hK : K.lookup a = none) :
    codeAny (model P w) callerA (.call (.ref fa) ⟨[.ref a], []⟩) (fun r s' => r = .ok (.ret (.bool true)) ∧ OldK s₁.heap s'.heap ∧ s'.os = s₁.os ∧ AllBare s'.gens) s₁ := by
  have rv := vals_ints hi
  have lenV := hi.length
  -- the script's object, locked
  let so : Obj := { cls := .type "list", data := .seq vs.toArray }
  let H : Hp := fun b => if b = a then some (.frz so (.lst (ns.map V.int))) else none
  have Ha : H a = some (.frz so (.lst (ns.map V.int))) := if_pos rfl
  have Hb : ∀ {b u}, H b = some u → b = a := fun {b u} e => by
    apply Classical.byContradiction
    intro z
    have : H b = none := if_neg z
    rw [this] at e
    cases e
  have hok : HOk P w H s₁.heap := fun b u e => by
    have z := Hb e
    subst z
    rw [Ha] at e
    cases e
    exact ⟨ha, by rw [List.length_map]; exact hl, vs, _, rv, ha⟩
  have hide : ∀ {b o}, s₁.heap.get? b = some o → b ≠ a → (hidT s₁.heap H).get? b = some o := fun {b o} e n => hidT_get e (if_neg n)
  have nsH : ∀ {b m}, s₁.heap.Ns b m → (hidT s₁.heap H).Ns b m := fun {b m} ⟨o, es, ep, e, d, r⟩ => ⟨o, es, ep, hide e (fun z => by subst z; rw [ha] at e; cases e; cases d), d, r⟩
  have hKb : K.In (hidT s₁.heap H) := fun b o e => hide (kx b o e) fun z => by subst z; rw [hK] at e; cases e
  have hM : Mod K mg (hidT s₁.heap H) := ⟨hKb, nsH hns, ⟨mb, nsH hb, hbb⟩, let ⟨mc, h1, h2⟩ := hlim; ⟨mc, nsH h1, h2⟩⟩
  have hB : BaseG P (hidT s₁.heap H) := by
    obtain ⟨⟨mc, c1, c2, c3⟩, ⟨mm, m1, m2⟩, ⟨mbi, i1, i2⟩, mgs, bm, ob, g1, g2, g3, g4, g5⟩ := hseer
    have obd : bm ≠ a := fun z => by subst z; rw [ha] at g3; cases g3; simp at g4
    refine ⟨⟨⟨mc, nsH c1, c2, c3⟩, ⟨mm, nsH m1, m2⟩, ⟨mbi, nsH i1, i2⟩, ⟨mgs, bm, ob, nsH g1, g2, hide g3 obd, g4, g5⟩⟩, htree, ?_⟩
    obtain ⟨mc', h1, h2⟩ := hdig
    exact ⟨mc', nsH h1, h2⟩
  have e0 : Env0 P w K mg (hidT s₁.heap H) callerA [] s₁ H := ⟨rfl, hM, fun b o e => of_hidT e, Nat.le_of_eq (hidT_size _ _), trivial, fun b hb => by simp [frs] at hb, hok, .of_eq hg⟩
  have rp : Rp K H (.ref a) (.list (ns.map .int)) := by
    refine .lst (xs := ns.map V.int) (.inr ⟨so, stab_frz Ha⟩) ?_
    clear hS hi rv lenV hok ha
    induction ns with
    | nil => exact .nil
    | cons n ns ih => exact .cons (.int n) (by
        have : ∀ (ms : List Int), Rps K H (ms.map V.int) (ms.map .int) := fun ms => by
          induction ms with
          | nil => exact .nil
          | cons m ms ih => exact .cons (.int m) ih
        exact this ns)
  refine codeAny_mono ((F _ hKb (nsH hns) hB).run callerA [] s₁ H ⟨[.ref a], []⟩ [.ref a] [.ref a] (fun v _ => v = .bl true) (fun _ _ _ => False) hr e0 (hbind s₁ (.ref a)) (.cons rfl .nil) rfl
    ⟨[.val (.list (ns.map .int))], _, _, ⟨rp, trivial⟩, rfl, hS, fun r ms v H' e _ _ rr => ?_, fun _ _ _ _ _ e => e.elim⟩) fun r s' h => ?_
  · subst e
    cases rr
    rfl
  · cases r with
    | error e =>
      obtain ⟨_, _, _, _, _, _, _, _, _, _, _, _, z⟩ := h
      exact z.elim
    | ok fl =>
      cases fl with
      | next => exact h.elim
      | brk => exact h.elim
      | cont => exact h.elim
      | ret u =>
        obtain ⟨v, H', os, bare, un, hok', r', q⟩ := h
        subst q
        obtain rfl : u = Value.bool true := r'
        refine ⟨rfl, OldK.of_keep fun b o e => ?_, os, bare⟩
        by_cases z : b = a
        · subst z
          have z2 := un.frzs b so _ Ha
          obtain ⟨e2, _⟩ := hok' b _ z2
          rw [ha] at e
          cases e
          exact e2
        · exact un.keep b o e (if_neg z) (by simp [frs]) (by simp)

/-- no list stands in the written part -/
def noLists (K : PySem.W.Frag) : Bool := K.all fun p => !(p.2.cls == .type "list")
theorem lookup_mem {a : Addr} {o : Obj} : ∀ {K : List (Addr × Obj)}, K.lookup a = some o → (a, o) ∈ K
  | [], h => by cases h
  | (b, u) :: K, h => by
    rw [List.lookup_cons] at h
    by_cases e : a == b
    · rw [e] at h
      cases h
      have := eq_of_beq e
      subst this
      exact List.mem_cons_self
    · rw [Bool.not_eq_true] at e
      rw [e] at h
      exact List.mem_cons_of_mem _ (lookup_mem h)
theorem g_walk_of {l : PySem.W.OpenLaw} {n k : Nat} {q : Program} {loose : List Str} {XP : (Str → Option Value) → Heap → Prop} {YP : World → Heap → Prop} {d : DefRec} {K : Params → PySem.W.Frag} {S : DSp} {x : Str}
    (hn : l.most = some n) (hn2 : n ≤ sizeLine) (hdf : d.params.defaults = []) (hr : RoomG k callerA) (htree : l.prog.given.tree = none) (hq : importsNone q = true)
    (hY : ∀ (w : World) (h : Heap), YP w h → (K w.params).In h) (hL : ∀ w : World, noLists (K w.params) = true)
    (F : ∀ (w : World) (mg : Str → Option Value) (fa : Addr) (h : Heap), (K w.params).In h → h.Ns mainGlobals mg → mg d.name = some (.ref fa) →
      ∃ fd : FuncData, (∀ (s : Shared) (u : Value), BindsTo s fd ⟨[u], []⟩ [(x, u)]) ∧
        ∀ base : Heap, (K w.params).In base → base.Ns mainGlobals mg → BaseG l.prog base → GFn l.prog w (K w.params) mg base k fa fd [x] S)
    (hS : ∀ ns : List Int, ns.length ≤ n → S [.val (.list (ns.map .int))] (fun r _ => r = .d (.bool true)) fun _ _ => False) :
    PySem.W.WalkO q loose XP YP l.row.toRowW d [] (fun f vs => PySem.call f vs) := by
  refine Att.attach_call hn hdf fun w s₀ s₁ mg mb fa o pm cd doc a vs ns G Y ho hd hcd hmg hobj hints hlen hg => ?_
  have kx := hY w _ Y
  obtain ⟨fd, hb, hF⟩ := F w mg fa _ kx G.T.g hmg
  refine g_law_call kx G.T.g G.T.b G.T.builtins G.T.nolimit (G.T.seer hq) G.T.nodigits htree hg hobj hints (Nat.le_trans hlen hn2) hr hF hb (hS ns hlen) ?_
  cases e : (K w.params).lookup a with
  | none => rfl
  | some ob =>
    have h1 := kx a ob e
    rw [hobj] at h1
    cases h1
    have h2 := List.all_eq_true.mp (hL w) _ (lookup_mem e)
    simp at h2
end DL
namespace DL
open PySem PySem.Spec PyProof.Rows L2

/-- a def of the text as callers use it -/
structure Cal (P : Program) (w : World) (K : PySem.W.Frag) (mg : Str → Option Value) (base : Heap) (k : Nat) (x : Str) (st : Stmt) (ps : List Str) (S : DSp) : Prop where
  ex : ∃ (f : Addr) (fd : FuncData), L2.Fun K x x st f fd ∧ mg x = some (.ref f) ∧ GFn P w K mg base k f fd ps S ∧ Binds K fd ps []
section
variable {P : Program} {w : World} {K : PySem.W.Frag} {mg : Str → Option Value} {base : Heap} {k : Nat} {x : Str} {st : Stmt} {N ps : List Str} {S : DSp} {f : Addr} {fd : FuncData} {t : DTS}
/-- a def's promise, by its body -/
theorem cal_of (F : L2.Fun K x x st f fd) (hm : mg x = some (.ref f)) (Sc : FnScope N ps (defScope st))
    (hb : ∀ (kV doc pm : Value) (an : Option Addr) (cdv ct : Value) (us : List Value), us.length = ps.length → bindArgs (PySem.W.fnOf x x (defArgs st) (defBody st) (defScope st) .none kV doc pm an cdv ct) ⟨us, []⟩ = pure (ps.zip us))
    (der : ∀ (cdv : Value) (A : Around) (outer : List Env) (s : Shared) (H : Hp) (E : XK) (c : DC), RoomG k (A.deeper (envOfC x (defScope st) s.heap.objs.size f cdv)) → c.pa.length ≤ ps.length → ∃ t, DSs (cxOf (L2.CX P w) P w K mg base N x (defScope st) f cdv A outer s H E) c (defBody st) t ∧
      ∀ as Q E, as.length = ps.length → S as Q E → t (endsOf ps as Q E) (slots0 N.length as)) :
    Cal P w K mg base (k + 1) x st ps S := by
  have b := F.binds hb
  obtain ⟨oc, od, kV, doc, pm, an, cdv, ct, osl, rfl, lk, hcd⟩ := id F.ex
  exact ⟨f, _, F, hm, gfn_of lk hcd Sc (der cdv), b⟩
end
section
variable {X : Cx} {c : DC} {e : Expr} {es : List Expr} {x : Str} {p pos : Pos} {k j : Nat} {st : Stmt} {ps : List Str} {S : DSp}
theorem dev_cf {t : DAg} (C : Cal X.prog X.w X.K X.mg X.base k x st ps S) (hr : RoomG j X.A) (hk : k ≤ j) (hg : Gl X x) (ha : DAgs X c (e :: es) t)
    (hdb : (x == ("__debug__" : Str)) = false := by decide +kernel) (he : starEach (e :: es) X.env = (false, eval e X.env) :: starEach es X.env := by rfl) (hpl : (backTo pos (starEach es X.env)).any (·.1) = false := by rfl) :
    DEv X c (.Call (.Name x p) (e :: es) [] pos) (dCall S ps.length t) := by
  obtain ⟨f, fd, F, hm, G, b⟩ := C.ex
  exact dev_call G (hr.mono hk) hg hm F.kp b ha hdb he hpl
/-- a call that hands back a new object, held on -/
def dCallN (S : DSp) (n : Nat) (t : DAg) : DM := fun W σ Q => t W σ fun ags σ1 => argsOf σ1 ags fun as => own1 as = true ∧ as.length = n ∧ S as (fun r ms => match r with
  | .m m => Q m (back σ1 ags ms)
  | .d _ => False) (fun x ms => W x (back σ1 ags ms))
theorem dem_cf {t : DAg} (C : Cal X.prog X.w X.K X.mg X.base k x st ps S) (hr : RoomG j X.A) (hk : k ≤ j) (hg : Gl X x) (ha : DAgs X c (e :: es) t)
    (hdb : (x == ("__debug__" : Str)) = false := by decide +kernel) (he : starEach (e :: es) X.env = (false, eval e X.env) :: starEach es X.env := by rfl) (hpl : (backTo pos (starEach es X.env)).any (·.1) = false := by rfl) :
    DEm X c (.Call (.Name x p) (e :: es) [] pos) (dCallN S ps.length t) := fun n W tk => by
  obtain ⟨f, fd, F, hm, G, b⟩ := C.ex
  obtain ⟨tv, pa, hra⟩ := ha n W tk
  refine ⟨_, pe_g G (hr.mono hk) tk hg hm F.kp b pa hdb he hpl, fun σ σv H Q Qv g up q k => ?_⟩
  refine hra σ σv H _ _ g up q fun ags σ1 vs H1 g1 x1 r1 q1 => ?_
  obtain ⟨as, ar, ⟨o1, ln, hS⟩, h3, _⟩ := args_ar g1 r1 q1
  refine ⟨ar.length.trans ln, as, _, _, ar, o1, hS, fun r ms v H' q2 hk hm' rr => ?_, fun y ms cls d H' q2 hk hm' er => ?_⟩
  · obtain ⟨g2, x2, ow⟩ := h3 ms H' o1 hk hm'
    cases r with
    | d y => exact q2.elim
    | m m =>
      obtain ⟨a, rfl, n, r⟩ := rr
      exact k m _ a H' g2 (x1.trans x2) ⟨r, x1.fresh n, fun z => g1.not_own n (ow a z)⟩ q2
  · obtain ⟨g2, x2, ow⟩ := h3 ms H' o1 hk hm'
    exact ⟨_, y, g2, (up.trans x1).trans x2, er, q2⟩
theorem dev_cf0 (C : Cal X.prog X.w X.K X.mg X.base k x st [] S) (hr : RoomG j X.A) (hk : k ≤ j) (hg : Gl X x) (hdb : (x == ("__debug__" : Str)) = false := by decide +kernel) : DEv X c (.Call (.Name x p) [] [] pos) (dCall0 S) := by
  obtain ⟨f, fd, F, hm, G, b⟩ := C.ex
  exact dev_call0 G (hr.mono hk) hg hm F.kp b hdb
theorem dev_cK {t : DA} {kws : List Keyword} {ks : List Str} (pm : List Nat) (C : Cal X.prog X.w X.K X.mg X.base k x st ps S) (hr : RoomG j X.A) (hk : k ≤ j) (hg : Gl X x)
    (hb : ∀ (kV doc pmv : Value) (an : Option Addr) (cdv ct : Value) (ws : List Value), ws.length = ks.length → bindArgs (PySem.W.fnOf x x (defArgs st) (defBody st) (defScope st) .none kV doc pmv an cdv ct) ⟨[], ks.zip ws⟩ = pure (ps.zip (permL pm ws))) (ha : DKw X c kws t)
    (hall : (backToKw pos (keywordEach kws X.env)).all (·.1.isSome) = true := by rfl) (hks : (backToKw pos (keywordEach kws X.env)).filterMap (·.1) = ks := by rfl)
    (hdb : (x == ("__debug__" : Str)) = false := by decide +kernel) (hpl : ((backTo pos (starEach [] X.env)).any (·.1) || (backToKw pos (keywordEach kws X.env)).any (·.1.isNone)) = false := by rfl) :
    DEv X c (.Call (.Name x p) [] kws pos) (dCallK S ps.length ks.length pm t) := by
  obtain ⟨f, fd, F, hm, G, b⟩ := C.ex
  have F' := F
  obtain ⟨oc, od, kV, doc, pmv, an, cdv, ct, osl, rfl, lk, hcd⟩ := F'.ex
  exact dev_callK G (hr.mono hk) hg hm F.kp (hb kV doc pmv an cdv ct) ha hall hks hdb hpl
end
/-! ### the reading, simplified -/
theorem vw_d (σ : DS) (x : D) (k : D → Prop) : vw σ (.d x) k = k x := rfl
theorem vw_s (σ : DS) (i : Nat) (k : D → Prop) : vw σ (.s i) k = match σ[i]? with
    | some (.val d) => k d
    | some (.ow m) => k m.view
    | _ => False := by
  unfold vw view
  dsimp only
  generalize σ[i]? = o
  cases o with
  | none => rfl
  | some z => cases z <;> rfl
theorem view_lst (xs : List D) : (M.lst xs).view = .list xs := rfl
theorem ex_some {α : Type} {P : α → Prop} (a : α) : (∃ p, some a = some p ∧ P p) = P a := by simp
theorem ixD_tup (xs : List D) (i : Int) (k : D → Prop) : ixD (.tuple xs) (.int i) k = match atI xs i with
    | some d => k d
    | none => False := rfl
theorem ixD_lst (xs : List D) (i : Int) (k : D → Prop) : ixD (.list xs) (.int i) k = match atI xs i with
    | some d => k d
    | none => False := rfl
theorem ret_d (Q : D → DS → Prop) (σ : DS) (x : D) : retD Q σ (.d x) = Q x σ := rfl
theorem ret_m (Q : D → DS → Prop) (σ : DS) (m : M) : retD Q σ (.m m) = Q m.view σ := rfl
end DL
namespace DL
open PySem PySem.Spec PyProof.Rows L2
section
variable {k : D → Prop} {kb : Bool → Prop} {km : M → Prop} {ki : Int → Prop} {kl : List D → Prop} {kx : DS → Prop}
theorem tru_n (k : Bool → Prop) : tru .none k = k false := rfl
theorem tru_b (b : Bool) (k : Bool → Prop) : tru (.bool b) k = k b := rfl
theorem tru_i (i : Int) (k : Bool → Prop) : tru (.int i) k = k (i != 0) := rfl
theorem tru_s (x : Str) (k : Bool → Prop) : tru (.str x) k = (x.length ≤ sizeLine ∧ k ((x.length : Int) != 0)) := rfl
theorem tru_l (xs : List D) (k : Bool → Prop) : tru (.list xs) k = k (!xs.isEmpty) := rfl
theorem tru_t (xs : List D) (k : Bool → Prop) : tru (.tuple xs) k = k (!xs.isEmpty) := rfl
theorem isBl_b (b : Bool) (k : Bool → Prop) : isBl (.bool b) k = k b := rfl
theorem asInt_i (i : Int) (k : Int → Prop) : asInt (.int i) k = k i := rfl
theorem absD_i (i : Int) (k : D → Prop) : absD [.int i] k = k (.int (if i < 0 then -i else i)) := rfl
theorem lenD_l (xs : List D) (k : D → Prop) : lenD [.list xs] k = k (.int xs.length) := rfl
theorem lenD_t (xs : List D) (k : D → Prop) : lenD [.tuple xs] k = k (.int xs.length) := rfl
theorem lenD_s (x : Str) (k : D → Prop) : lenD [.str x] k = (x.length ≤ sizeLine ∧ k (.int x.length)) := rfl
theorem intD_i (i : Int) (k : D → Prop) : intCD [.int i] k = k (.int i) := rfl
theorem intD_b (b : Bool) (k : D → Prop) : intCD [.bool b] k = k (.int (if b then 1 else 0)) := rfl
theorem listM_l (xs : List D) (k : M → Prop) : listM [.list xs] k = k (.lst xs) := rfl
theorem listM_t (xs : List D) (k : M → Prop) : listM [.tuple xs] k = k (.lst xs) := rfl
theorem tupleD_l (xs : List D) (k : D → Prop) : tupleD [.list xs] k = k (.tuple xs) := rfl
theorem tupleD_t (xs : List D) (k : D → Prop) : tupleD [.tuple xs] k = k (.tuple xs) := rfl
theorem reprD_d (d : D) (k : D → Prop) : reprD [d] k = (d.showable = true ∧ d.depth ≤ 40 ∧ d.shown.length ≤ sizeLine ∧ k (.str d.shown)) := rfl
theorem addD_i (i j : Int) (k : D → Prop) : addD (.int i) (.int j) k = k (.int (i + j)) := rfl
theorem addD_s (x y : Str) (k : D → Prop) : addD (.str x) (.str y) k = (x.length + y.length ≤ sizeLine ∧ k (.str (x ++ y))) := rfl
theorem addD_t (x y : List D) (k : D → Prop) : addD (.tuple x) (.tuple y) k = (x.length + y.length ≤ sizeLine ∧ k (.tuple (x ++ y))) := rfl
theorem addD_l (x y : List D) (k : D → Prop) : addD (.list x) (.list y) k = (x.length + y.length ≤ sizeLine ∧ k (.list (x ++ y))) := rfl
theorem catM_l (x y : List D) (k : M → Prop) : catM (.list x) (.list y) k = (x.length + y.length ≤ sizeLine ∧ k (.lst (x ++ y))) := rfl
theorem ii0_i (f : Int → Int → D) (i j : Int) (k : D → Prop) : ii0 f (.int i) (.int j) k = k (f i j) := rfl
theorem iiD_i (C : Int → Int → Prop) (f : Int → Int → D) (i j : Int) (k : D → Prop) : iiD C f (.int i) (.int j) k = (C i j ∧ k (f i j)) := rfl
theorem bbD_b (f : Bool → Bool → Bool) (a b : Bool) (k : D → Prop) : bbD f (.bool a) (.bool b) k = k (.bool (f a b)) := rfl
theorem slD_l (xs : List D) (lo hi : Option Int) (k : D → Prop) : slD (.list xs) lo hi k = k (.list (cutD xs lo hi)) := rfl
theorem slD_t (xs : List D) (lo hi : Option Int) (k : D → Prop) : slD (.tuple xs) lo hi k = k (.tuple (cutD xs lo hi)) := rfl
theorem slM_l (xs : List D) (lo hi : Option Int) (k : M → Prop) : slM (.list xs) lo hi k = k (.lst (cutD xs lo hi)) := rfl
theorem items_l (xs : List D) (k : List D → Prop) : items (.list xs) k = k xs := rfl
theorem items_t (xs : List D) (k : List D → Prop) : items (.tuple xs) k = k xs := rfl
theorem setM_l (xs : List D) (i : Int) (d : D) (k : M → Prop) : setM (.lst xs) (.int i) d k = match ixN xs.length i with
    | some n => k (.lst (xs.set n d))
    | none => False := rfl
theorem appM_l (xs : List D) (d : D) (k : M → Prop) : appM (.lst xs) d k = (xs.length < sizeLine ∧ k (.lst (xs ++ [d]))) := rfl
theorem isL_l (xs : List D) : isL (.lst xs) = True := rfl
theorem gTp_t (n : Nat) (gs : GTs) (xs : List D) (σ : DS) (Q : DS → Prop) : gTp n gs (.tuple xs) σ Q = (xs.length = n ∧ gs xs σ Q) := rfl
theorem gs_nil (σ : DS) (Q : DS → Prop) : gsNil [] σ Q = Q σ := rfl
theorem gs_cons (g : GT) (gs : GTs) (d : D) (ds : List D) (σ : DS) (Q : DS → Prop) : gsCons g gs (d :: ds) σ Q = g d σ fun σ1 => gs ds σ1 Q := rfl
theorem isNone_n : isNone .none = true := rfl
theorem isNone_i (i : Int) : isNone (.int i) = false := rfl
theorem isNone_b (b : Bool) : isNone (.bool b) = false := rfl
theorem isNone_s (x : Str) : isNone (.str x) = false := rfl
theorem isNone_l (xs : List D) : isNone (.list xs) = false := rfl
theorem isNone_t (xs : List D) : isNone (.tuple xs) = false := rfl
theorem shaped_n : SeqAt.shaped .none = true := rfl
theorem shaped_b (b : Bool) : SeqAt.shaped (.bool b) = true := rfl
theorem shaped_int (i : Int) : SeqAt.shaped (.int i) = true := rfl
theorem eqv_int (i j : Int) : PyData.eqv (.int i) (.int j) = (i == j) := rfl
theorem eqv_str (i j : Str) : PyData.eqv (.str i) (.str j) = (i == j) := rfl
theorem rg1_i (j : Int) (kk : List D → Prop) : (match [PyData.int j] with
  | [.int j] => (-(2 ^ 62) ≤ j ∧ j < 2 ^ 62) ∧ kk (rng 0 j.toNat)
  | _ => False) = ((-(2 ^ 62) ≤ j ∧ j < 2 ^ 62) ∧ kk (rng 0 j.toNat)) := rfl
theorem eq_match_some {α : Type} {P : α → Prop} {o : Option α} {a : α} (h : o = some a) (p : P a) : match o with
    | some d => P d
    | none => False := by subst h; exact p
theorem atI_of {α : Type} {xs : List α} {i : Int} {j : Nat} {a : α} (h : i = (j : Int)) (e : xs[j]? = some a) : atI xs i = some a := by
  subst h
  exact atI_nat e
theorem vw_sv {σ : DS} {i : Nat} {d : D} {k : D → Prop} (h : σ[i]? = some (.val d)) : vw σ (.s i) k = k d := by rw [vw_s, h]
/-! slots of a written list -/
theorem vw_0v (d : D) (σ : DS) (k : D → Prop) : vw (.val d :: σ) (.s 0) k = k d := rfl
theorem vw_0o (m : M) (σ : DS) (k : D → Prop) : vw (.ow m :: σ) (.s 0) k = k m.view := rfl
theorem vw_su (z : Sl) (σ : DS) (i : Nat) (k : D → Prop) : vw (z :: σ) (.s (i + 1)) k = vw σ (.s i) k := rfl
/-- a name's value, handed on -/
def nmv (i j : Nat) (full : DS) (σ : DS) (Q : R → DS → Prop) : Prop := match σ[i]? with
  | some (.val d) => Q (.d d) full
  | some (.ow _) => Q (.s j) full
  | _ => False
theorem dName_c (i : Nat) (W : DK) (z : Sl) (σ : DS) (Q : R → DS → Prop) : dName i W (z :: σ) Q = nmv i i (z :: σ) (z :: σ) Q := rfl
theorem nmv_0v (j : Nat) (full : DS) (d : D) (σ : DS) (Q : R → DS → Prop) : nmv 0 j full (.val d :: σ) Q = Q (.d d) full := rfl
theorem nmv_0o (j : Nat) (full : DS) (m : M) (σ : DS) (Q : R → DS → Prop) : nmv 0 j full (.ow m :: σ) Q = Q (.s j) full := rfl
theorem nmv_su (i j : Nat) (full : DS) (z : Sl) (σ : DS) (Q : R → DS → Prop) : nmv (i + 1) j full (z :: σ) Q = nmv i j full σ Q := rfl
theorem atSl_0 (m : M) (σ : DS) (k : M → Prop) : atSl (.ow m :: σ) 0 k = k m := rfl
theorem atSl_su (z : Sl) (σ : DS) (i : Nat) (k : M → Prop) : atSl (z :: σ) (i + 1) k = atSl σ i k := rfl
/-- take, in the shape of dTake -/
def tkv (i j : Nat) (full σ : DS) (Q : D → DS → Prop) : Prop := match σ[i]? with
  | some (.val d) => Q d full
  | some (.ow m) => Q m.view (full.set j (.val m.view))
  | _ => False
theorem take_sx (i : Nat) (z : Sl) (σ : DS) (Q : D → DS → Prop) : tkD (z :: σ) (.s i) Q = tkv i i (z :: σ) (z :: σ) Q := rfl
theorem tkv_0v (j : Nat) (full : DS) (d : D) (σ : DS) (Q : D → DS → Prop) : tkv 0 j full (.val d :: σ) Q = Q d full := rfl
theorem tkv_0o (j : Nat) (full : DS) (m : M) (σ : DS) (Q : D → DS → Prop) : tkv 0 j full (.ow m :: σ) Q = Q m.view (full.set j (.val m.view)) := rfl
theorem tkv_su (i j : Nat) (full : DS) (z : Sl) (σ : DS) (Q : D → DS → Prop) : tkv (i + 1) j full (z :: σ) Q = tkv i j full σ Q := rfl
theorem take_dx (x : D) (σ : DS) (Q : D → DS → Prop) : tkD σ (.d x) Q = Q x σ := rfl
/-- a branch -/
def br (k : Bool) (A B : Prop) : Prop := match k with
  | true => A
  | false => B
theorem ite_br {k : Bool} {A B : Prop} [inst : Decidable (k = true)] : (if k = true then A else B) = br k A B := by cases k <;> simp [br]
theorem ite_T {A B : Prop} [inst : Decidable True] : (if True then A else B) = A := if_pos trivial
theorem ite_F {A B : Prop} [inst : Decidable False] : (if False then A else B) = B := if_neg id
theorem br_t (A B : Prop) : br true A B = A := rfl
theorem br_f (A B : Prop) : br false A B = B := rfl
theorem br_n (k : Bool) (A B : Prop) : br (!k) A B = br k B A := by cases k <;> rfl
theorem br_by {k : Bool} {A B : Prop} (a : k = true → A) (b : k = false → B) : br k A B := by
  cases k
  · exact b rfl
  · exact a rfl
theorem br_d {p : Prop} [Decidable p] {A B : Prop} (a : p → A) (b : ¬ p → B) : br (decide p) A B := br_by (fun e => a (of_decide_eq_true e)) fun e => b (of_decide_eq_false e)
theorem br_e {α : Type} [BEq α] [LawfulBEq α] {x y : α} {A B : Prop} (a : x = y → A) (b : x ≠ y → B) : br (x == y) A B := br_by (fun e => a (eq_of_beq e)) fun e => b (ne_of_beq_false e)
theorem outM_n (σ : DS) : outM [] σ = some [] := by cases σ <;> rfl
theorem outM_o (m0 m : M) (as : List Sl) (σ : DS) : outM (.ow m0 :: as) (.ow m :: σ) = (outM as σ).map (m :: ·) := rfl
theorem outM_v (d : D) (as : List Sl) (z : Sl) (σ : DS) : outM (.val d :: as) (z :: σ) = outM as σ := by cases z <;> rfl
theorem own1_n : own1 [] = true := rfl
theorem own1_v (d : D) (as : List Sl) : own1 (.val d :: as) = own1 as := rfl
theorem own1_o (m : M) (as : List Sl) : own1 (.ow m :: as) = noOw as := rfl
theorem noOw_n : noOw [] = true := rfl
theorem noOw_v (d : D) (as : List Sl) : noOw (.val d :: as) = noOw as := rfl
theorem back_n (σ : DS) (ms : List M) : back σ [] ms = σ := rfl
theorem back_v (σ : DS) (d : D) (r : List Ag) (ms : List M) : back σ (.v d :: r) ms = back σ r ms := rfl
theorem back_s (σ : DS) (i : Nat) (r : List Ag) (m : M) (ms : List M) : back σ (.s i :: r) (m :: ms) = σ.set i (.ow m) := rfl
theorem argsOf_n (σ : DS) (k : List Sl → Prop) : argsOf σ [] k = k [] := rfl
theorem argsOf_v (σ : DS) (d : D) (r : List Ag) (k : List Sl → Prop) : argsOf σ (.v d :: r) k = argsOf σ r fun as => k (.val d :: as) := rfl
theorem argsOf_s (σ : DS) (i : Nat) (r : List Ag) (k : List Sl → Prop) : argsOf σ (.s i :: r) k = atSl σ i fun m => argsOf σ r fun as => k (.ow m :: as) := rfl
theorem vws_n (σ : DS) (k : List D → Prop) : vws σ [] k = k [] := rfl
theorem vws_c (σ : DS) (r : R) (rs : List R) (k : List D → Prop) : vws σ (r :: rs) k = vw σ r fun x => vws σ rs fun xs => k (x :: xs) := rfl
theorem isi_int_n  : isiD "int" .none = false := rfl
theorem isi_int_b (b : Bool) : isiD "int" (.bool b) = true := rfl
theorem isi_int_i (i : Int) : isiD "int" (.int i) = true := rfl
theorem isi_int_s (x : Str) : isiD "int" (.str x) = false := rfl
theorem isi_int_l (xs : List D) : isiD "int" (.list xs) = false := rfl
theorem isi_int_t (xs : List D) : isiD "int" (.tuple xs) = false := rfl
theorem isi_int_d (xs : List (D × D)) : isiD "int" (.dict xs) = false := rfl
theorem isi_bool_n  : isiD "bool" .none = false := rfl
theorem isi_bool_b (b : Bool) : isiD "bool" (.bool b) = true := rfl
theorem isi_bool_i (i : Int) : isiD "bool" (.int i) = false := rfl
theorem isi_bool_s (x : Str) : isiD "bool" (.str x) = false := rfl
theorem isi_bool_l (xs : List D) : isiD "bool" (.list xs) = false := rfl
theorem isi_bool_t (xs : List D) : isiD "bool" (.tuple xs) = false := rfl
theorem isi_bool_d (xs : List (D × D)) : isiD "bool" (.dict xs) = false := rfl
theorem isi_str_n  : isiD "str" .none = false := rfl
theorem isi_str_b (b : Bool) : isiD "str" (.bool b) = false := rfl
theorem isi_str_i (i : Int) : isiD "str" (.int i) = false := rfl
theorem isi_str_s (x : Str) : isiD "str" (.str x) = true := rfl
theorem isi_str_l (xs : List D) : isiD "str" (.list xs) = false := rfl
theorem isi_str_t (xs : List D) : isiD "str" (.tuple xs) = false := rfl
theorem isi_str_d (xs : List (D × D)) : isiD "str" (.dict xs) = false := rfl
theorem isi_list_n  : isiD "list" .none = false := rfl
theorem isi_list_b (b : Bool) : isiD "list" (.bool b) = false := rfl
theorem isi_list_i (i : Int) : isiD "list" (.int i) = false := rfl
theorem isi_list_s (x : Str) : isiD "list" (.str x) = false := rfl
theorem isi_list_l (xs : List D) : isiD "list" (.list xs) = true := rfl
theorem isi_list_t (xs : List D) : isiD "list" (.tuple xs) = false := rfl
theorem isi_list_d (xs : List (D × D)) : isiD "list" (.dict xs) = false := rfl
theorem isi_tuple_n  : isiD "tuple" .none = false := rfl
theorem isi_tuple_b (b : Bool) : isiD "tuple" (.bool b) = false := rfl
theorem isi_tuple_i (i : Int) : isiD "tuple" (.int i) = false := rfl
theorem isi_tuple_s (x : Str) : isiD "tuple" (.str x) = false := rfl
theorem isi_tuple_l (xs : List D) : isiD "tuple" (.list xs) = false := rfl
theorem isi_tuple_t (xs : List D) : isiD "tuple" (.tuple xs) = true := rfl
theorem isi_tuple_d (xs : List (D × D)) : isiD "tuple" (.dict xs) = false := rfl
theorem atI_0 (x0 : D) (xs : List D) : atI (x0 :: xs) 0 = some x0 := atI_nat (j := 0) rfl
theorem atI_1 (x0 x1 : D) (xs : List D) : atI (x0 :: x1 :: xs) 1 = some x1 := atI_nat (j := 1) rfl
theorem atI_2 (x0 x1 x2 : D) (xs : List D) : atI (x0 :: x1 :: x2 :: xs) 2 = some x2 := atI_nat (j := 2) rfl
theorem atI_3 (x0 x1 x2 x3 : D) (xs : List D) : atI (x0 :: x1 :: x2 :: x3 :: xs) 3 = some x3 := atI_nat (j := 3) rfl
theorem atI_4 (x0 x1 x2 x3 x4 : D) (xs : List D) : atI (x0 :: x1 :: x2 :: x3 :: x4 :: xs) 4 = some x4 := atI_nat (j := 4) rfl
theorem atI_5 (x0 x1 x2 x3 x4 x5 : D) (xs : List D) : atI (x0 :: x1 :: x2 :: x3 :: x4 :: x5 :: xs) 5 = some x5 := atI_nat (j := 5) rfl
theorem atI_6 (x0 x1 x2 x3 x4 x5 x6 : D) (xs : List D) : atI (x0 :: x1 :: x2 :: x3 :: x4 :: x5 :: x6 :: xs) 6 = some x6 := atI_nat (j := 6) rfl
theorem atI_7 (x0 x1 x2 x3 x4 x5 x6 x7 : D) (xs : List D) : atI (x0 :: x1 :: x2 :: x3 :: x4 :: x5 :: x6 :: x7 :: xs) 7 = some x7 := atI_nat (j := 7) rfl
theorem atI_8 (x0 x1 x2 x3 x4 x5 x6 x7 x8 : D) (xs : List D) : atI (x0 :: x1 :: x2 :: x3 :: x4 :: x5 :: x6 :: x7 :: x8 :: xs) 8 = some x8 := atI_nat (j := 8) rfl
theorem atI_9 (x0 x1 x2 x3 x4 x5 x6 x7 x8 x9 : D) (xs : List D) : atI (x0 :: x1 :: x2 :: x3 :: x4 :: x5 :: x6 :: x7 :: x8 :: x9 :: xs) 9 = some x9 := atI_nat (j := 9) rfl
theorem atI_10 (x0 x1 x2 x3 x4 x5 x6 x7 x8 x9 x10 : D) (xs : List D) : atI (x0 :: x1 :: x2 :: x3 :: x4 :: x5 :: x6 :: x7 :: x8 :: x9 :: x10 :: xs) 10 = some x10 := atI_nat (j := 10) rfl
theorem atI_11 (x0 x1 x2 x3 x4 x5 x6 x7 x8 x9 x10 x11 : D) (xs : List D) : atI (x0 :: x1 :: x2 :: x3 :: x4 :: x5 :: x6 :: x7 :: x8 :: x9 :: x10 :: x11 :: xs) 11 = some x11 := atI_nat (j := 11) rfl
theorem atI_12 (x0 x1 x2 x3 x4 x5 x6 x7 x8 x9 x10 x11 x12 : D) (xs : List D) : atI (x0 :: x1 :: x2 :: x3 :: x4 :: x5 :: x6 :: x7 :: x8 :: x9 :: x10 :: x11 :: x12 :: xs) 12 = some x12 := atI_nat (j := 12) rfl
theorem atI_13 (x0 x1 x2 x3 x4 x5 x6 x7 x8 x9 x10 x11 x12 x13 : D) (xs : List D) : atI (x0 :: x1 :: x2 :: x3 :: x4 :: x5 :: x6 :: x7 :: x8 :: x9 :: x10 :: x11 :: x12 :: x13 :: xs) 13 = some x13 := atI_nat (j := 13) rfl
theorem atI_14 (x0 x1 x2 x3 x4 x5 x6 x7 x8 x9 x10 x11 x12 x13 x14 : D) (xs : List D) : atI (x0 :: x1 :: x2 :: x3 :: x4 :: x5 :: x6 :: x7 :: x8 :: x9 :: x10 :: x11 :: x12 :: x13 :: x14 :: xs) 14 = some x14 := atI_nat (j := 14) rfl
end
end DL
namespace DL
open PySem PySem.Spec PyProof.Rows L2
/-! ### small facts for readings -/
theorem mulOk_l {a b : Int} (h : a.natAbs < 18446744073709551616) : MulFit a b := ⟨IntMulOk.of_left (intBits_le_64 (by omega) (by omega))⟩
theorem mulOk_r {a b : Int} (h : b.natAbs < 18446744073709551616) : MulFit a b := ⟨IntMulOk.of_right (intBits_le_64 (by omega) (by omega))⟩
theorem mulOk_lT {a b : Int} (h : decide (a.natAbs < 18446744073709551616) = true) : MulFit a b = True := eq_true (mulOk_l (of_decide_eq_true h))
theorem log_64 {m : Nat} (h : m < 18446744073709551616) : m.log2 < 9000 := by
  by_cases z : m = 0
  · subst z; decide
  · exact Nat.lt_of_lt_of_le ((Nat.log2_lt (k := 64) z).mpr (by omega)) (by decide)
theorem log_lt {m : Nat} (k : Nat) (h : m < 2 ^ k) (hk : k ≤ 9000) (h0 : 0 < k) : m.log2 < 9000 := by
  by_cases z : m = 0
  · subst z; decide
  · exact Nat.lt_of_lt_of_le ((Nat.log2_lt z).mpr h) hk
theorem fmod_rng (x : Int) {m : Int} (h : 0 < m) : 0 ≤ x.fmod m ∧ x.fmod m < m := ⟨Int.fmod_nonneg_of_pos x h, Int.fmod_lt_of_pos x h⟩
theorem fdiv_nn {x m : Int} (hx : 0 ≤ x) (h : 0 < m) : 0 ≤ x.fdiv m := by
  rw [Int.fdiv_eq_ediv_of_nonneg x (by omega)]
  exact Int.ediv_nonneg hx (by omega)
theorem abs_nn (a : Int) : 0 ≤ (if a < 0 then -a else a) := by split <;> omega
theorem shaped_ints (cells : List Int) : SeqAt.shaped (.list (cells.map .int)) = true := by
  have h1 : ∀ cs : List Int, PyData.canLayAll0 (cs.map .int) = true := fun cs => by
    induction cs with
    | nil => rfl
    | cons c cs ih => rw [List.map_cons, PyData.canLayAll0, ih]; rfl
  have h2 : ∀ cs : List Int, PyData.depthAll (cs.map .int) = 0 := fun cs => by
    induction cs with
    | nil => rfl
    | cons c cs ih => rw [List.map_cons, PyData.depthAll, ih]; rfl
  unfold SeqAt.shaped
  rw [PyData.canLay0, PyData.depth, h1, h2]
  rfl
theorem shaped_nl : SeqAt.shaped (.list []) = true := rfl
theorem eqv_list_nil (xs : List D) : PyData.eqv (.list xs) (.list []) = xs.isEmpty := by cases xs <;> rfl
/-- a place out of a shown list -/
theorem ix_any {xs : List D} {r : Int} {k : D → Prop} (h0 : 0 ≤ r) (h1 : r < xs.length) (h : ∀ d ∈ xs, k d) : match atI xs r with
    | some d => k d
    | none => False := by
  obtain ⟨j, rfl⟩ := Int.eq_ofNat_of_zero_le h0
  have hj : j < xs.length := by omega
  rw [atI_nat (List.getElem?_eq_getElem hj)]
  exact h _ (List.getElem_mem hj)
theorem ixN_32 : ixN 3 2 = some 2 := rfl
theorem ixN_31 : ixN 3 1 = some 1 := rfl
theorem br_i {k : Bool} {A B : Prop} (a : A) (b : B) : br k A B := by cases k <;> assumption
theorem ints_at {cells : List Int} (h : cells.isEmpty = false) (a : Int) : ¬ ((cells.map PyData.int).length : Int) = 0 ∧ ∃ c, atI (cells.map PyData.int) (a.fmod ((cells.map PyData.int).length : Int)) = some (.int c) := by
  have hl : 0 < (cells.map PyData.int).length := by
    rw [List.length_map]
    cases cells with
    | nil => exact absurd h (by decide)
    | cons c cs => exact Nat.succ_pos _
  obtain ⟨h0, h1⟩ := fmod_rng a (m := ((cells.map PyData.int).length : Int)) (by omega)
  obtain ⟨j, hj⟩ := Int.eq_ofNat_of_zero_le h0
  rw [hj] at h1 ⊢
  have hj2 : j < (cells.map PyData.int).length := by omega
  rw [atI_nat (List.getElem?_eq_getElem hj2), List.getElem_map]
  exact ⟨by omega, _, rfl⟩
theorem small_mul {x y : Int} {B C : Int} (h0 : 0 ≤ x) (h1 : x ≤ B) (h2 : 0 ≤ y) (h3 : y ≤ C) : 0 ≤ x * y ∧ x * y ≤ B * C := ⟨Int.mul_nonneg h0 h2, Int.mul_le_mul h1 h3 h2 (by omega)⟩
/-- the law's pen: how many cells are drawn at most -/
def Pen (n : Nat) (p : M) : Prop := ∃ (cells : List Int) (a g : Int), p = .lst [.list (cells.map .int), .int a, .int g] ∧ 0 ≤ a ∧ a ≤ n ∧ 0 ≤ g ∧ cells.length ≤ 63
theorem Pen.mono {n m : Nat} {p : M} (h : Pen n p) (hm : n ≤ m) : Pen m p := by
  obtain ⟨c, a, g, e, h1, h2, h3, h4⟩ := h
  exact ⟨c, a, g, e, h1, by omega, h3, h4⟩
theorem Pen.new {cells : List Int} (h : cells.length ≤ 63) (n : Nat) : Pen n (.lst [.list (cells.map .int), .int 0, .int 0]) := ⟨cells, 0, 0, rfl, by omega, by omega, by omega, h⟩

/-! ### dict displays -/
def keysD : D → Option Key
  | .int i => some (.inl i)
  | .str x => some (.inr x)
  | _ => none
/-- the pairs' data as keys and values -/
def keyed : List (D × D) → (List (Key × D) → Prop) → Prop
  | [], k => k []
  | (a, b) :: r, k => match keysD a with
    | some y => keyed r fun kvs => k ((y, b) :: kvs)
    | none => False
def putD (kvs : List (Key × D)) (k : Key) (v : D) : List (Key × D) :=
  if (kvs.any fun kv => decide (kv.1 = k)) = true then kvs.map (fun kv => if kv.1 = k then (kv.1, v) else kv) else kvs ++ [(k, v)]
def mergeD (kvs more : List (Key × D)) : List (Key × D) := more.foldl (fun acc kv => putD acc kv.1 kv.2) kvs
abbrev DP2 := DK → DS → (List (D × D) → DS → Prop) → Prop
inductive Rp2 (K : PySem.W.Frag) (H : Hp) : List (V × V) → List (D × D) → Prop
  | nil : Rp2 K H [] []
  | cons {a b : V} {x y : D} {r : List (V × V)} {q : List (D × D)} : Rp K H a x → Rp K H b y → Rp2 K H r q → Rp2 K H ((a, b) :: r) ((x, y) :: q)
theorem Rp2.length {K : PySem.W.Frag} {H : Hp} : ∀ {r : List (V × V)} {q : List (D × D)}, Rp2 K H r q → r.length = q.length
  | _, _, .nil => rfl
  | _, _, .cons _ _ r => by rw [List.length_cons, List.length_cons, r.length]
def DPs (X : Cx) (c : DC) (pos : Pos) (ks : List (Option Expr)) (vs : List Expr) (t : DP2) : Prop := ∀ n W, TK X c n W → ∃ tv, PPs X pos ks vs tv ∧ ∀ σ σv H Q Qv, Gd X.K c σ σv H → Up n σ σv H → t W σ Q →
  (∀ ds σ' vs H', Gd X.K c σ' σv H' → Mv σ σv H σ' σv H' → Rp2 X.K H' vs ds → Q ds σ' → Qv vs H') → tPairs tv σv H Qv
def dpNil : DP2 := fun _ σ Q => Q [] σ
def dpCons (t u : DV) (r : DP2) : DP2 := fun W σ Q => t W σ fun a σ1 => u W σ1 fun b σ2 => r W σ2 fun ps σ3 => Q ((a, b) :: ps) σ3
section
variable {X : Cx} {c : DC} {pos : Pos} {k v : Expr} {ks : List (Option Expr)} {vs : List Expr}
theorem dp_nil : DPs X c pos [] [] dpNil := fun n W tk => ⟨_, pps_nil, fun σ σv H Q Qv g up q kk => kk _ _ _ _ g (Mv.refl σ σv H) .nil q⟩
theorem dp_cons {t u : DV} {r : DP2} (hk : DEv X c k t) (hv : DEv X c v u) (hr : DPs X c pos ks vs r) : DPs X c pos (some k :: ks) (v :: vs) (dpCons t u r) := fun n W tk => by
  obtain ⟨tv, pe, h1⟩ := hk n W tk
  obtain ⟨uv, pe2, h2⟩ := hv n W tk
  obtain ⟨rv, pp, h3⟩ := hr n W tk
  refine ⟨_, pps_cons pe pe2 pp, fun σ σv H Q Qv g up q kk => ?_⟩
  refine h1 σ σv H _ _ g up q fun a σ1 x H1 g1 x1 r1 q1 => ?_
  refine h2 σ1 σv H1 _ _ g1 (up.trans x1) q1 fun b σ2 y H2 g2 x2 r2 q2 => ?_
  exact h3 σ2 σv H2 _ _ g2 ((up.trans x1).trans x2) q2 fun ps σ3 zs H3 g3 x3 r3 q3 => kk _ _ _ _ g3 ((x1.trans x2).trans x3) (.cons ((r1.ext x2.ext).ext x3.ext) (r2.ext x3.ext) r3) q3
theorem keyed_mono {P Q : List (Key × D) → Prop} : ∀ {ps : List (D × D)}, (∀ kvs, P kvs → Q kvs) → keyed ps P → keyed ps Q
  | [], h, q => h _ q
  | (a, b) :: r, h, q => by
    unfold keyed at q ⊢
    split at q
    · next y e => exact keyed_mono (fun kvs p => h _ p) q
    · exact q.elim
theorem keyed_rel {K : PySem.W.Frag} {H : Hp} {P : List (Key × D) → Prop} : ∀ {zs : List (V × V)} {ps : List (D × D)}, Rp2 K H zs ps → keyed ps P →
    ∃ (kvs : List (Key × V)) (kds : List (Key × D)), zs = kvs.map (fun kv => (kV kv.1, kv.2)) ∧ kvs.map (·.1) = kds.map (·.1) ∧ Rps K H (kvs.map (·.2)) (kds.map (·.2)) ∧ kvs.length = ps.length ∧ P kds
  | _, _, .nil, q => ⟨[], [], rfl, rfl, .nil, rfl, q⟩
  | _, _, .cons (a := a) (b := b) (x := x) (y := y) h1 h2 r, q => by
    unfold keyed at q
    split at q
    · next z e =>
      obtain ⟨kvs, kds, e1, e2, e3, e4, p⟩ := keyed_rel r q
      refine ⟨(z, b) :: kvs, (z, y) :: kds, ?_, by simp [e2], .cons h2 e3, by simp [e4], p⟩
      rw [List.map_cons, ← e1]
      cases x <;> simp [keysD] at e
      · subst e; cases h1; rfl
      · subst e; cases h1; rfl
    · exact q.elim
theorem Rps.app2 {K : PySem.W.Frag} {H : Hp} : ∀ {vs : List V} {ds : List D}, Rps K H vs ds → ∀ {v : V} {d : D}, Rp K H v d → Rps K H (vs ++ [v]) (ds ++ [d])
  | _, _, .nil, _, _, h => .cons h .nil
  | _, _, .cons a r, _, _, h => .cons a (r.app2 h)
theorem putK_rel {K : PySem.W.Frag} {H : Hp} (k : Key) {v : V} {d : D} (hv : Rp K H v d) : ∀ {kvs : List (Key × V)} {kds : List (Key × D)}, kvs.map (·.1) = kds.map (·.1) → Rps K H (kvs.map (·.2)) (kds.map (·.2)) →
    (putK kvs k v).map (·.1) = (putD kds k d).map (·.1) ∧ Rps K H ((putK kvs k v).map (·.2)) ((putD kds k d).map (·.2)) := by
  intro kvs kds h1 h2
  have ha : (kvs.any fun kv => decide (kv.1 = k)) = (kds.any fun kv => decide (kv.1 = k)) := by
    have e1 : (kvs.any fun kv => decide (kv.1 = k)) = (kvs.map (·.1)).any fun x => decide (x = k) := by rw [List.any_map]; rfl
    have e2 : (kds.any fun kv => decide (kv.1 = k)) = (kds.map (·.1)).any fun x => decide (x = k) := by rw [List.any_map]; rfl
    rw [e1, e2, h1]
  unfold putK putD
  rw [ha]
  by_cases hc : (kds.any fun kv => decide (kv.1 = k)) = true
  · rw [if_pos hc, if_pos hc]
    clear ha hc
    induction kvs generalizing kds with
    | nil =>
      cases kds with
      | nil => exact ⟨rfl, .nil⟩
      | cons p r => simp at h1
    | cons p kvs ih =>
      cases kds with
      | nil => simp at h1
      | cons q kds =>
        simp only [List.map_cons, List.cons.injEq] at h1
        cases h2 with
        | cons a r =>
          obtain ⟨i1, i2⟩ := ih h1.2 r
          simp only [List.map_cons]
          rw [i1, h1.1]
          refine ⟨by split <;> first | rfl | (rw [h1.1]), ?_⟩
          split
          · exact .cons hv i2
          · exact .cons a i2
  · rw [if_neg hc, if_neg hc]
    simp only [List.map_append, List.map_cons, List.map_nil, h1, true_and]
    exact h2.app2 hv
theorem merge_rel {K : PySem.W.Frag} {H : Hp} : ∀ {kvs : List (Key × V)} {kds : List (Key × D)}, kvs.map (·.1) = kds.map (·.1) → Rps K H (kvs.map (·.2)) (kds.map (·.2)) →
    ∀ {as : List (Key × V)} {bs : List (Key × D)}, as.map (·.1) = bs.map (·.1) → Rps K H (as.map (·.2)) (bs.map (·.2)) → (mergeK as kvs).map (·.1) = (mergeD bs kds).map (·.1) ∧ Rps K H ((mergeK as kvs).map (·.2)) ((mergeD bs kds).map (·.2))
  | [], [], _, _, _, _, h1, h2 => ⟨h1, h2⟩
  | [], _ :: _, h, _, _, _, _, _ => by simp at h
  | _ :: _, [], h, _, _, _, _, _ => by simp at h
  | p :: r, q :: u, h, h', _, _, h1, h2 => by
    simp only [List.map_cons, List.cons.injEq] at h
    cases h' with
    | cons a b =>
      obtain ⟨i1, i2⟩ := putK_rel p.1 a h1 h2
      show (mergeK (putK _ p.1 p.2) r).map (·.1) = (mergeD (putD _ q.1 q.2) u).map (·.1) ∧ Rps K H ((mergeK (putK _ p.1 p.2) r).map (·.2)) ((mergeD (putD _ q.1 q.2) u).map (·.2))
      rw [h.1] at i1 i2 ⊢
      exact merge_rel h.2 b i1 i2
def dDct (t : DP2) : DM := fun W σ Q => t W σ fun ps σ1 => ps.length ≤ 15 ∧ keyed ps fun kvs => Q (.dct (mergeD [] kvs)) σ1
theorem dem_dct {t : DP2} (h : DPs X c pos ks vs t) (hall : ks.all (·.isSome) = true := by rfl) (hl : ks.length = vs.length := by rfl) (h0 : ks ≠ [] := by exact List.cons_ne_nil _ _) (h15 : ks.length ≤ 15 := by decide) : DEm X c (.Dict ks vs pos) (dDct t) := fun n W tk => by
  obtain ⟨tv, pp, hr⟩ := h n W tk
  refine ⟨_, pe_disp pp hall hl h0 h15, fun σ σv H Q Qv g up q k p hp => ?_⟩
  have sm := Same.new (o := .dK []) hp
  have g0 := g.same sm
  refine hr σ σv _ _ _ g0 (up.trans (Mv.same sm)) q fun ps σ1 zs H1 g1 x1 r1 q1 => ?_
  obtain ⟨k1, k2⟩ := x1.kp p (.dK []) upd_same fun z => by
    obtain ⟨i, m, h1, h2⟩ := z
    obtain ⟨b, h3, h4, _⟩ := g.ow i m h1
    rw [h2] at h3; cases h3
    obtain ⟨o, h5, _⟩ := h4.ex
    rw [hp] at h5; cases h5
  obtain ⟨kvs, kds, e1, e2, e3, e4, q2⟩ := keyed_rel r1 q1.2
  refine ⟨k1, kvs, e1, ?_, ?_⟩
  · rw [e4]; exact q1.1
  · have e : Ext H1 (upd H1 p (.dK (mergeK [] kvs))) := Ext.chg k1 (stabD_none k1)
    obtain ⟨m1, m2⟩ := merge_rel e2 e3 (as := []) (bs := []) rfl .nil
    refine k (.dct (mergeD [] kds)) _ _ _ (g1.other k2 e) ⟨((Ext.same sm).trans x1.ext).trans e, fun b w h n => ?_, fun b w h => ?_⟩ ⟨⟨_, upd_same, m1, m2.ext e⟩, hp, k2⟩ q2
    · have nb : b ≠ p := ne_of_none h hp
      obtain ⟨h7, h8⟩ := x1.kp b w (by rw [upd_ne nb]; exact h) n
      exact ⟨by rw [upd_ne nb]; exact h7, h8⟩
    · by_cases z : b = p
      · subst z; exact ⟨_, upd_same⟩
      · rw [upd_ne z]; exact x1.dom b w (by rw [upd_ne z]; exact h)
def dDctN : DM := fun _ σ Q => Q (.dct []) σ
theorem dem_dct0 : DEm X c (.Dict [] [] pos) dDctN := fun n W tk => ⟨_, pe_dnewK, fun σ σv H Q Qv g up q k p hp => by
  have sm := Same.new (o := .dK []) hp
  exact k (.dct []) _ _ _ (g.same sm) (Mv.same sm) ⟨⟨[], upd_same, rfl, .nil⟩, hp, g.not_own hp⟩ q⟩
end
end DL
namespace DL
open PySem PySem.Spec PyProof.Rows L2
/-! ### loops, by what holds of the rest -/
theorem for_ind {g : GT} {tb : DTS} {Dn : DEnds} (P : List D → DS → Prop) {xs : List D} {σ : DS} (h : P xs σ) (h0 : ∀ σ, P [] σ → Dn.nx σ)
    (h1 : ∀ x xs σ (k : DS → Prop), (∀ σ', P xs σ' → k σ') → P (x :: xs) σ → g x σ fun σ2 => tb { Dn with nx := k, ct := k, bk := Dn.nx } σ2) : forD g tb Dn xs σ := by
  induction xs generalizing σ with
  | nil => exact h0 σ h
  | cons x xs ih => exact h1 x xs σ _ (fun σ' p => ih p) h
theorem lc_ind {vs : List Nat} {g : GT} {tt : DB} {te : DV} {Q : List D → DS → Prop} (P : List D → List D → DS → Prop) {xs acc : List D} {σ : DS} (h : P xs acc σ) (h0 : ∀ acc σ, P [] acc σ → Q acc σ)
    (h1 : ∀ x xs acc σ (k : List D → DS → Prop), (∀ acc' σ', P xs acc' σ' → k acc' σ') → P (x :: xs) acc σ → g x σ fun σ2 => tt W0 σ2 fun b σ3 => if b = true then te W0 σ3 fun d σ4 => k (acc ++ [d]) (forget σ4 vs) else k acc (forget σ3 vs)) :
    lcD vs g tt te xs acc σ Q := by
  induction xs generalizing acc σ with
  | nil => exact h0 acc σ h
  | cons x xs ih => exact h1 x xs acc σ (fun a s => lcD vs g tt te xs a s Q) (fun a s p => ih p) h
theorem rng_length (lo : Int) (n : Nat) : (rng lo n).length = n := by unfold rng; rw [List.length_map, List.length_range]
theorem rng_mem {lo : Int} {n : Nat} {d : D} (h : d ∈ rng lo n) : ∃ i : Nat, i < n ∧ d = .int (lo + i) := by
  unfold rng at h
  obtain ⟨i, h1, rfl⟩ := List.mem_map.mp h
  exact ⟨i, List.mem_range.mp h1, rfl⟩
/-! ### places in lists -/
def atK (xs : List D) (i : Int) (k : D → Prop) : Prop := match atI xs i with
  | some d => k d
  | none => False
theorem ixT (xs : List D) (i : Int) (k : D → Prop) : ixD (.tuple xs) (.int i) k = atK xs i k := rfl
theorem ixL (xs : List D) (i : Int) (k : D → Prop) : ixD (.list xs) (.int i) k = atK xs i k := rfl
theorem atK_some {xs : List D} {i : Int} {k : D → Prop} {d : D} (h : atI xs i = some d) : atK xs i k = k d := by
  unfold atK
  rw [h]
theorem ix_P {xs : List D} {r : Int} {k : D → Prop} (P : D → Prop) (h0 : 0 ≤ r) (h1 : r < xs.length) (hP : ∀ d ∈ xs, P d) (hk : ∀ d, P d → k d) : atK xs r k := by
  obtain ⟨j, rfl⟩ := Int.eq_ofNat_of_zero_le h0
  have hj : j < xs.length := by omega
  rw [atK_some (atI_nat (List.getElem?_eq_getElem hj))]
  exact hk _ (hP _ (List.getElem_mem hj))
theorem atK_0 (x0 : D) (xs : List D) (k : D → Prop) : atK (x0 :: xs) 0 k = k x0 := atK_some (atI_nat (j := 0) rfl)
theorem atK_1 (x0 x1 : D) (xs : List D) (k : D → Prop) : atK (x0 :: x1 :: xs) 1 k = k x1 := atK_some (atI_nat (j := 1) rfl)
theorem atK_2 (x0 x1 x2 : D) (xs : List D) (k : D → Prop) : atK (x0 :: x1 :: x2 :: xs) 2 k = k x2 := atK_some (atI_nat (j := 2) rfl)
theorem atK_3 (x0 x1 x2 x3 : D) (xs : List D) (k : D → Prop) : atK (x0 :: x1 :: x2 :: x3 :: xs) 3 k = k x3 := atK_some (atI_nat (j := 3) rfl)
theorem atK_4 (x0 x1 x2 x3 x4 : D) (xs : List D) (k : D → Prop) : atK (x0 :: x1 :: x2 :: x3 :: x4 :: xs) 4 k = k x4 := atK_some (atI_nat (j := 4) rfl)
theorem atK_5 (x0 x1 x2 x3 x4 x5 : D) (xs : List D) (k : D → Prop) : atK (x0 :: x1 :: x2 :: x3 :: x4 :: x5 :: xs) 5 k = k x5 := atK_some (atI_nat (j := 5) rfl)
theorem atK_6 (x0 x1 x2 x3 x4 x5 x6 : D) (xs : List D) (k : D → Prop) : atK (x0 :: x1 :: x2 :: x3 :: x4 :: x5 :: x6 :: xs) 6 k = k x6 := atK_some (atI_nat (j := 6) rfl)
theorem atK_7 (x0 x1 x2 x3 x4 x5 x6 x7 : D) (xs : List D) (k : D → Prop) : atK (x0 :: x1 :: x2 :: x3 :: x4 :: x5 :: x6 :: x7 :: xs) 7 k = k x7 := atK_some (atI_nat (j := 7) rfl)
theorem atK_8 (x0 x1 x2 x3 x4 x5 x6 x7 x8 : D) (xs : List D) (k : D → Prop) : atK (x0 :: x1 :: x2 :: x3 :: x4 :: x5 :: x6 :: x7 :: x8 :: xs) 8 k = k x8 := atK_some (atI_nat (j := 8) rfl)
theorem atK_9 (x0 x1 x2 x3 x4 x5 x6 x7 x8 x9 : D) (xs : List D) (k : D → Prop) : atK (x0 :: x1 :: x2 :: x3 :: x4 :: x5 :: x6 :: x7 :: x8 :: x9 :: xs) 9 k = k x9 := atK_some (atI_nat (j := 9) rfl)
theorem atK_10 (x0 x1 x2 x3 x4 x5 x6 x7 x8 x9 x10 : D) (xs : List D) (k : D → Prop) : atK (x0 :: x1 :: x2 :: x3 :: x4 :: x5 :: x6 :: x7 :: x8 :: x9 :: x10 :: xs) 10 k = k x10 := atK_some (atI_nat (j := 10) rfl)
theorem atK_11 (x0 x1 x2 x3 x4 x5 x6 x7 x8 x9 x10 x11 : D) (xs : List D) (k : D → Prop) : atK (x0 :: x1 :: x2 :: x3 :: x4 :: x5 :: x6 :: x7 :: x8 :: x9 :: x10 :: x11 :: xs) 11 k = k x11 := atK_some (atI_nat (j := 11) rfl)
theorem atK_12 (x0 x1 x2 x3 x4 x5 x6 x7 x8 x9 x10 x11 x12 : D) (xs : List D) (k : D → Prop) : atK (x0 :: x1 :: x2 :: x3 :: x4 :: x5 :: x6 :: x7 :: x8 :: x9 :: x10 :: x11 :: x12 :: xs) 12 k = k x12 := atK_some (atI_nat (j := 12) rfl)
theorem atK_13 (x0 x1 x2 x3 x4 x5 x6 x7 x8 x9 x10 x11 x12 x13 : D) (xs : List D) (k : D → Prop) : atK (x0 :: x1 :: x2 :: x3 :: x4 :: x5 :: x6 :: x7 :: x8 :: x9 :: x10 :: x11 :: x12 :: x13 :: xs) 13 k = k x13 := atK_some (atI_nat (j := 13) rfl)
theorem atK_14 (x0 x1 x2 x3 x4 x5 x6 x7 x8 x9 x10 x11 x12 x13 x14 : D) (xs : List D) (k : D → Prop) : atK (x0 :: x1 :: x2 :: x3 :: x4 :: x5 :: x6 :: x7 :: x8 :: x9 :: x10 :: x11 :: x12 :: x13 :: x14 :: xs) 14 k = k x14 := atK_some (atI_nat (j := 14) rfl)
/-! ### what may be shown -/
structure Nice (w p : Nat) (d : D) : Prop where
  s : d.showable = true
  dp : d.depth ≤ p
  l : d.leavesShort 100 = true
  w : d.weight ≤ w
structure NiceL (w p : Nat) (d : List D) : Prop where
  s : PyData.showableAll d = true
  dp : PyData.depthAll d ≤ p
  l : PyData.leavesShortAll 100 d = true
  w : PyData.weightAll d ≤ w
section
variable {w w' p : Nat} {d k v : D} {ds : List D}
theorem nice_int {i : Int} (h : i.natAbs < 10 ^ 90) : Nice 300 p (.int i) := by
  have hl : i.natAbs.log2 < 300 := by
    by_cases z : i.natAbs = 0
    · rw [z]; decide
    · exact (Nat.log2_lt z).mpr (Nat.lt_trans h (by decide))
  refine ⟨?_, Nat.zero_le _, ?_, ?_⟩
  · rw [PyData.showable]
    exact decide_eq_true (by omega)
  · rw [PyData.leavesShort]
    refine decide_eq_true ?_
    have e := int_text_length_le10 (k := 90) (by decide) h
    show (Str.ofString (toString i)).length ≤ 100
    rw [PySem.ofString_length]
    omega
  · rw [PyData.weight]
    split <;> omega
theorem nice_non : Nice 0 p .none := ⟨rfl, Nat.zero_le _, rfl, Nat.zero_le _⟩
theorem nice_bl {b : Bool} : Nice 0 p (.bool b) := ⟨rfl, Nat.zero_le _, rfl, Nat.zero_le _⟩
theorem nice_str {x : Str} (h : PyData.leavesShort 100 (.str x) = true) : Nice x.cps.size p (.str x) := ⟨rfl, Nat.zero_le _, h, Nat.le_refl _⟩
theorem nl_nil : NiceL 0 p [] := ⟨rfl, Nat.zero_le _, rfl, Nat.zero_le _⟩
theorem nl_cons (h : Nice w p d) (hs : NiceL w' p ds) : NiceL (w + 1 + w') p (d :: ds) := by
  refine ⟨?_, ?_, ?_, ?_⟩
  · rw [PyData.showableAll, h.s, hs.s]; rfl
  · rw [PyData.depthAll]; exact Nat.max_le.mpr ⟨h.dp, hs.dp⟩
  · rw [PyData.leavesShortAll, h.l, hs.l]; rfl
  · rw [PyData.weightAll]; have := h.w; have := hs.w; omega
theorem nice_tup (h : NiceL w p ds) : Nice w (p + 1) (.tuple ds) := ⟨by rw [PyData.showable]; exact h.s, by rw [PyData.depth]; have := h.dp; omega, by rw [PyData.leavesShort]; exact h.l, by rw [PyData.weight]; exact h.w⟩
theorem nice_lst (h : NiceL w p ds) : Nice w (p + 1) (.list ds) := ⟨by rw [PyData.showable]; exact h.s, by rw [PyData.depth]; have := h.dp; omega, by rw [PyData.leavesShort]; exact h.l, by rw [PyData.weight]; exact h.w⟩
theorem nice_dct0 : Nice 0 (p + 1) (.dict []) := ⟨rfl, Nat.le_add_left _ _, rfl, Nat.zero_le _⟩
theorem nice_dct1 (h : Nice w p k) (hs : Nice w' p v) : Nice (w + w' + 2) (p + 1) (.dict [(k, v)]) := by
  refine ⟨?_, ?_, ?_, ?_⟩
  · rw [PyData.showable, PyData.showableKv, PyData.showableKv, h.s, hs.s]; rfl
  · rw [PyData.depth, PyData.depthKv, PyData.depthKv]; have := h.dp; have := hs.dp; omega
  · rw [PyData.leavesShort, PyData.leavesShortKv, PyData.leavesShortKv, h.l, hs.l]; rfl
  · rw [PyData.weight, PyData.weightKv, PyData.weightKv]; have := h.w; have := hs.w; omega
theorem Nice.mono {w2 p2 : Nat} (h : Nice w p d) (h1 : w ≤ w2) (h2 : p ≤ p2) : Nice w2 p2 d := ⟨h.s, Nat.le_trans h.dp h2, h.l, Nat.le_trans h.w h1⟩
theorem Nice.shown (h : Nice w p d) (hw : w ≤ 160000) : d.shown.length ≤ sizeLine := by
  have e := PyData.shown_le 100 (by decide) d h.l
  have e2 := h.w
  have : (100 + 2) * d.weight ≤ 102 * 160000 := Nat.mul_le_mul (Nat.le_refl _) (by omega)
  rw [sizeLine_eq]
  omega
theorem Nice.rep (h : Nice w p d) (hw : w ≤ 160000) (hp : p ≤ 40) {k : D → Prop} (hk : k (.str d.shown)) : reprD [d] k := ⟨h.s, Nat.le_trans h.dp hp, h.shown hw, hk⟩
end
/-! ### shares -/
abbrev encS (q : Rat) : D := .tuple [.int q.num, .int (q.den : Int)]
theorem fdiv_neg_neg (a b : Int) : (-a).fdiv (-b) = a.fdiv b := Int.neg_fdiv_neg ..
theorem share_num (u d : Int) (hd : d ≠ 0) :
    u.fdiv (if d < 0 then 0 - (Int.gcd u d : Int) else (Int.gcd u d : Int)) = (Rat.divInt u d).num ∧ d.fdiv (if d < 0 then 0 - (Int.gcd u d : Int) else (Int.gcd u d : Int)) = ((Rat.divInt u d).den : Int) ∧ (if d < 0 then 0 - (Int.gcd u d : Int) else (Int.gcd u d : Int)) ≠ 0 := by
  have hg : (0 : Int) < Int.gcd u d := by
    have := Int.gcd_pos_of_ne_zero_right u hd
    omega
  have h1 : (Int.gcd u d : Int) ∣ u := Int.gcd_dvd_left ..
  have h2 : (Int.gcd u d : Int) ∣ d := Int.gcd_dvd_right ..
  rw [Rat.num_divInt, Rat.den_divInt, if_neg hd, Int.gcd_comm d u]
  generalize hG : (Int.gcd u d) = G at *
  obtain ⟨a, rfl⟩ := h1
  obtain ⟨b, rfl⟩ := h2
  have hG0 : (G : Int) ≠ 0 := by omega
  have hGn : G ≠ 0 := by omega
  have hb : b ≠ 0 := fun z => hd (by rw [z, Int.mul_zero])
  by_cases hs : (G : Int) * b < 0
  · rw [if_pos hs]
    have hb0 : b < 0 := by
      apply Classical.byContradiction
      intro z
      have := Int.mul_nonneg (Int.le_of_lt hg) (show 0 ≤ b by omega)
      omega
    have e : (0 - (G : Int)) = -(G : Int) := by omega
    rw [e]
    refine ⟨?_, ?_, by omega⟩
    · rw [Int.sign_eq_neg_one_of_neg hs, show (G : Int) * a = -(G : Int) * -a by grind, Int.mul_fdiv_cancel_left _ (by omega), show -1 * (-(G : Int) * -a) = (G : Int) * -a by grind, Int.mul_ediv_cancel_left _ hG0]
    · rw [show (G : Int) * b = -(G : Int) * -b by grind, Int.mul_fdiv_cancel_left _ (by omega), Int.natAbs_mul, Int.natAbs_neg, Int.natAbs_natCast, Nat.mul_div_cancel_left _ (by omega)]
      omega
  · rw [if_neg hs]
    have hb0 : 0 < b := by
      apply Classical.byContradiction
      intro z
      have := Int.mul_neg_of_pos_of_neg hg (show b < 0 by omega)
      omega
    refine ⟨?_, ?_, hG0⟩
    · rw [Int.sign_eq_one_of_pos (Int.mul_pos hg hb0), Int.one_mul, Int.mul_fdiv_cancel_left _ hG0, Int.mul_ediv_cancel_left _ hG0]
    · rw [Int.mul_fdiv_cancel_left _ hG0, Int.natAbs_mul, Int.natAbs_natCast, Nat.mul_div_cancel_left _ (by omega)]
      omega
theorem share_le (u d : Int) (hd : d ≠ 0) : (Rat.divInt u d).num.natAbs ≤ u.natAbs ∧ (Rat.divInt u d).den ≤ d.natAbs := by
  rw [Rat.num_divInt, Rat.den_divInt, if_neg hd]
  refine ⟨?_, Nat.div_le_self _ _⟩
  rw [Int.natAbs_ediv_of_dvd]
  · refine Nat.le_trans (Nat.div_le_self _ _) ?_
    rw [Int.natAbs_mul]
    have : d.sign.natAbs ≤ 1 := by
      rcases Int.lt_trichotomy d 0 with h | h | h
      · rw [Int.sign_eq_neg_one_of_neg h]; decide
      · exact absurd h hd
      · rw [Int.sign_eq_one_of_pos h]; decide
    have := Nat.mul_le_mul_right u.natAbs this
    omega
  · exact Int.dvd_trans (Int.gcd_dvd_right ..) (Int.dvd_mul_left ..)
end DL
namespace DL
open PySem PySem.Spec PyProof.Rows L2
/-! ### calls of any shape: values by place, by name, defaults -/
/-- a def of the text with its defaults -/
structure CalD (P : Program) (w : World) (K : PySem.W.Frag) (mg : Str → Option Value) (base : Heap) (k : Nat) (x : Str) (st : Stmt) (ps : List Str) (dvs : List V) (kws : List (Str × V)) (S : DSp) : Prop where
  ex : ∃ (f : Addr) (fd : FuncData), FunD K x x (defArgs st) (defBody st) (defScope st) dvs kws f fd ∧ mg x = some (.ref f) ∧ GFn P w K mg base k f fd ps S
/-- n values by place, those named ks, the rest defaults; pm: where each parameter's value stands -/
def BndD (K : PySem.W.Frag) (fd : FuncData) (ps : List Str) (n : Nat) (ks : List Str) (pm : List Nat) (dvs : List V) : Prop :=
  ∃ its : List Value, Vals dvs its ∧ ∀ (s : Shared) (us ws : List Value), K.In s.heap → us.length = n → ws.length = ks.length → BindsTo s fd ⟨us, ks.zip ws⟩ (ps.zip (permL pm (us ++ ws ++ its)))
section
variable {P : Program} {w : World} {K : PySem.W.Frag} {mg : Str → Option Value} {base : Heap} {k : Nat} {x : Str} {st : Stmt} {N ps : List Str} {S : DSp} {f : Addr} {fd : FuncData} {dvs : List V} {kws : List (Str × V)}
theorem cald_of (F : FunD K x x (defArgs st) (defBody st) (defScope st) dvs kws f fd) (hm : mg x = some (.ref f)) (Sc : FnScope N ps (defScope st))
    (der : ∀ (cdv : Value) (A : Around) (outer : List Env) (s : Shared) (H : Hp) (E : XK) (c : DC), RoomG k (A.deeper (envOfC x (defScope st) s.heap.objs.size f cdv)) → c.pa.length ≤ ps.length → ∃ t, DSs (cxOf (L2.CX P w) P w K mg base N x (defScope st) f cdv A outer s H E) c (defBody st) t ∧
      ∀ as Q E, as.length = ps.length → S as Q E → t (endsOf ps as Q E) (slots0 N.length as)) :
    CalD P w K mg base (k + 1) x st ps dvs kws S := by
  obtain ⟨oc, od, dV, kV, doc, pm, an, cdv, ct, osl, e, lk, hcd, _, _⟩ := id F.ex
  subst e
  exact ⟨f, _, F, hm, gfn_of lk hcd Sc (der cdv)⟩
theorem bnd0 (F : FunD K x x (defArgs st) (defBody st) (defScope st) [] kws f fd) {n : Nat} {ks : List Str} {pm : List Nat}
    (h : ∀ (kV doc pmv : Value) (an : Option Addr) (cdv ct : Value) (us ws : List Value), us.length = n → ws.length = ks.length → bindArgs (PySem.W.fnOf x x (defArgs st) (defBody st) (defScope st) .none kV doc pmv an cdv ct) ⟨us, ks.zip ws⟩ = pure (ps.zip (permL pm (us ++ ws)))) : BndD K fd ps n ks pm [] := by
  obtain ⟨oc, od, dV, kV, doc, pmv, an, cdv, ct, osl, rfl, lk, hcd, hD, hK⟩ := F.ex
  rcases hD with ⟨_, rfl⟩ | ⟨e, _⟩
  · exact ⟨[], .nil, fun s us ws _ h1 h2 => .of_eq (by rw [List.append_nil]; exact h kV doc pmv an cdv ct us ws h1 h2)⟩
  · exact absurd rfl e
theorem bnd1 (F : FunD K x x (defArgs st) (defBody st) (defScope st) dvs kws f fd) (hd : dvs ≠ []) {n : Nat} {ks : List Str} {pm : List Nat}
    (h : ∀ (T : Addr) (kV doc pmv : Value) (an : Option Addr) (cdv ct : Value) (us ws its : List Value), us.length = n → ws.length = ks.length → its.length = dvs.length →
      ∃ k, bindArgs (PySem.W.fnOf x x (defArgs st) (defBody st) (defScope st) (.ref T) kV doc pmv an cdv ct) ⟨us, ks.zip ws⟩ = seqItems? (.ref T) >>= k ∧ k (some its.toArray) = pure (ps.zip (permL pm (us ++ ws ++ its)))) : BndD K fd ps n ks pm dvs := by
  obtain ⟨oc, od, dV, kV, doc, pmv, an, cdv, ct, osl, rfl, lk, hcd, hD, hK⟩ := F.ex
  rcases hD with ⟨e, _⟩ | ⟨_, T, o, its, m, rfl, lT, oT, rT⟩
  · exact absurd e hd
  · refine ⟨its, rT, fun s us ws X h1 h2 => BindsTo.of_looks fun M => ?_⟩
    obtain ⟨k, e1, e2⟩ := h T kV doc pmv an cdv ct us ws its h1 h2 rT.length.symm
    rw [e1]
    exact looks_items X lT oT (.of_pure e2)
theorem bnd2 (F : FunD K x x (defArgs st) (defBody st) (defScope st) dvs kws f fd) (hd : dvs ≠ []) (hk : kws ≠ []) (ms : List (Str × V)) (hms : ∀ q ∈ ms, q ∈ kws) {n : Nat} {ks : List Str} {pm : List Nat}
    (h : ∀ (T D : Addr) (doc pmv : Value) (an : Option Addr) (cdv ct : Value) (us ws its mv : List Value), us.length = n → ws.length = ks.length → its.length = dvs.length → mv.length = ms.length →
      ∃ k, bindArgs (PySem.W.fnOf x x (defArgs st) (defBody st) (defScope st) (.ref T) (.ref D) doc pmv an cdv ct) ⟨us, ks.zip ws⟩ = seqItems? (.ref T) >>= k ∧ KwChain D ((ms.map (·.1)).zip mv) (k (some its.toArray)) (ps.zip (permL pm (us ++ ws ++ (its ++ mv))))) : BndD K fd ps n ks pm (dvs ++ ms.map (·.2)) := by
  obtain ⟨oc, od, dV, kV, doc, pmv, an, cdv, ct, osl, rfl, lk, hcd, hD, hK⟩ := F.ex
  rcases hD with ⟨e, _⟩ | ⟨_, T, o, its, m, rfl, lT, oT, rT⟩
  · exact absurd e hd
  · rcases hK with e | ⟨D, rfl, hq⟩
    · exact absurd e hk
    · obtain ⟨mv, hl, rk, hks⟩ := kwd_vals (ms := ms) fun q hm => hq q (hms q hm)
      refine ⟨its ++ mv, rT.append rk, fun s us ws X h1 h2 => BindsTo.of_looks fun M => ?_⟩
      obtain ⟨k, e1, e2⟩ := h T D doc pmv an cdv ct us ws its mv h1 h2 rT.length.symm hl
      rw [e1]
      exact looks_items X lT oT (KwChain.looks X hks e2)
end
section
variable {X : Cx} {c : DC} {e : Expr} {es : List Expr} {x : Str} {p pos : Pos} {kk j n : Nat} {st : Stmt} {ps ks : List Str} {S : DSp} {f : Addr} {fd : FuncData} {dvs dds' : List V} {kws : List Keyword} {kwd : List (Str × V)} {pm : List Nat} {dds : List D}
def tGX (K : PySem.W.Frag) (S : DSp) (W' : WX) (ps : List Str) (n m : Nat) (pm : List Nat) (dvs : List V) (t tk : TA) : TE := fun σ H Q => t σ H fun vs H1 => tk σ H1 fun zs H2 => vs.length = n ∧ zs.length = m ∧ (permL pm (vs ++ zs ++ dvs)).length = ps.length ∧ toSp K S (permL pm (vs ++ zs ++ dvs)) H2 Q fun cls d H' => W' cls d σ H'
def tNil : TA := fun σ H Q => Q [] H
theorem vals_app3 {vs zs ds : List V} {us ws its : List Value} (a : Vals vs us) (b : Vals zs ws) (d : Vals ds its) : Vals (vs ++ zs ++ ds) (us ++ ws ++ its) := (a.append b).append d
theorem pe_gP {W' : WX} {t : TA} (F : GFn X.prog X.w X.K X.mg X.base kk f fd ps S) (hr : RoomG kk X.A) (tk : Takes X W') (hg : Gl X x) (hm : X.mg x = some (.ref f)) (hk : PySem.W.keepIn X.K (.ref f) = true) (hb : BndD X.K fd ps n [] pm dvs) (ha : PA X (e :: es) t)
    (hdb : (x == ("__debug__" : Str)) = false := by decide +kernel) (he : starEach (e :: es) X.env = (false, eval e X.env) :: starEach es X.env := by rfl) (hpl : (backTo pos (starEach es X.env)).any (·.1) = false := by rfl) :
    PE X (.Call (.Name x p) (e :: es) [] pos) (tGX X.K S W' ps n 0 pm dvs t tNil) := ⟨fun pins s σ H Q I h => by
  obtain ⟨its, rd, hb⟩ := hb
  refine wpAny_Call_Name_kw (ld_glob I hg hm ?_ hdb)
  refine PySem.W.callWith_K (h₀ := X.base) I.ok.mod.kin hk (thn (ha.run pos pins s σ H _ I h) fun us s1 ⟨vs, H1, I1, r, l1, l2, l3, q⟩ => ⟨I1.kIn, ?_⟩) he hpl
  exact run_g (args := ⟨us, []⟩) F hr tk (hb s1 us [] I1.kIn (r.length.symm.trans l1) rfl) (vals_perm (vals_app3 r .nil rd) pm) l3 I1 q⟩
theorem pe_gQ {W' : WX} {t : TA} (F : GFn X.prog X.w X.K X.mg X.base kk f fd ps S) (hr : RoomG kk X.A) (tk : Takes X W') (hg : Gl X x) (hm : X.mg x = some (.ref f)) (hk : PySem.W.keepIn X.K (.ref f) = true) (hb : BndD X.K fd ps 0 ks pm dvs) (hkw : PK X kws t)
    (hall : (backToKw pos (keywordEach kws X.env)).all (·.1.isSome) = true := by rfl) (hks : (backToKw pos (keywordEach kws X.env)).filterMap (·.1) = ks := by rfl)
    (hdb : (x == ("__debug__" : Str)) = false := by decide +kernel) (hpl : ((backTo pos (starEach [] X.env)).any (·.1) || (backToKw pos (keywordEach kws X.env)).any (·.1.isNone)) = false := by rfl) :
    PE X (.Call (.Name x p) [] kws pos) (tGX X.K S W' ps 0 ks.length pm dvs tNil t) := ⟨fun pins s σ H Q I h => by
  obtain ⟨its, rd, hb⟩ := hb
  refine wpAny_Call_Name_kw (ld_glob I hg hm ?_ hdb)
  refine PySem.W.callWith_KW0 (h₀ := X.base) I.ok.mod.kin hk hall ?_ hpl
  refine thn (hkw.run pos pins s σ H _ I h) fun ws s2 ⟨zs, H2, I2, rz, l1, l2, l3, q2⟩ => ⟨I2.kIn, ?_⟩
  rw [hks]
  exact run_g (args := ⟨[], ks.zip ws⟩) F hr tk (hb s2 [] ws I2.kIn rfl (rz.length.symm.trans l2)) (vals_perm (vals_app3 .nil rz rd) pm) l3 I2 q2⟩
theorem pe_gN {W' : WX} {t u : TA} (F : GFn X.prog X.w X.K X.mg X.base kk f fd ps S) (hr : RoomG kk X.A) (tk : Takes X W') (hg : Gl X x) (hm : X.mg x = some (.ref f)) (hk : PySem.W.keepIn X.K (.ref f) = true) (hb : BndD X.K fd ps n ks pm dvs) (ha : PA X (e :: es) t) (hkw : PK X kws u)
    (hall : (backToKw pos (keywordEach kws X.env)).all (·.1.isSome) = true := by rfl) (hks : (backToKw pos (keywordEach kws X.env)).filterMap (·.1) = ks := by rfl)
    (hdb : (x == ("__debug__" : Str)) = false := by decide +kernel) (he : starEach (e :: es) X.env = (false, eval e X.env) :: starEach es X.env := by rfl)
    (hpl : ((backTo pos (starEach (e :: es) X.env)).any (·.1) || (backToKw pos (keywordEach kws X.env)).any (·.1.isNone)) = false := by rfl) :
    PE X (.Call (.Name x p) (e :: es) kws pos) (tGX X.K S W' ps n ks.length pm dvs t u) := ⟨fun pins s σ H Q I h => by
  obtain ⟨its, rd, hb⟩ := hb
  refine wpAny_Call_Name_kw (ld_glob I hg hm ?_ hdb)
  refine PySem.W.callWith_KW (h₀ := X.base) I.ok.mod.kin hk hall (thn (ha.run pos pins s σ H _ I h) fun us s1 ⟨vs, H1, I1, r, q⟩ => ?_) hpl he
  refine thn (hkw.run pos pins s1 σ H1 _ I1 q) fun ws s2 ⟨zs, H2, I2, rz, l1, l2, l3, q2⟩ => ⟨I2.kIn, ?_⟩
  rw [hks]
  exact run_g (args := ⟨us, ks.zip ws⟩) F hr tk (hb s2 us ws I2.kIn (r.length.symm.trans l1) (rz.length.symm.trans l2)) (vals_perm (vals_app3 r rz rd) pm) l3 I2 q2⟩
/-- f(a, .., k = v, ..), some by default: values alone -/
def dCallX (S : DSp) (np n m : Nat) (pm : List Nat) (dds : List D) (t tk : DA) : DV := fun W σ Q => t W σ fun ds σ1 => tk W σ1 fun es σ2 => ds.length = n ∧ es.length = m ∧ (permL pm (ds ++ es ++ dds)).length = np ∧ S ((permL pm (ds ++ es ++ dds)).map .val) (fun r _ => retD Q σ2 r) (fun x _ => W x σ2)
theorem callX_end {W : DK} {n0 : En} {σ σ2 : DS} {σv : VS} {H H2 : Hp} {Q : D → DS → Prop} {Qv : VK} {args : List V} {ads : List D} (rp : Rps X.K H2 args ads) (g2 : Gd X.K c σ2 σv H2) (x2 : Mv σ σv H σ2 σv H2) (up : Up n0 σ σv H)
    (hS : S (ads.map .val) (fun r _ => retD Q σ2 r) (fun x _ => W x σ2)) (k : ∀ d σ' v H', Gd X.K c σ' σv H' → Mv σ σv H σ' σv H' → Rp X.K H' v d → Q d σ' → Qv v H') :
    toSp X.K S args H2 (fun v H' => Qv v H' ∨ ∃ a u, H' a = some u ∧ Lk u ∧ ∀ o, Qv v (upd H' a (.frz o u))) fun cls d H' => wv X.K c n0.σ n0.σv n0.H W cls d σv H' := by
  obtain ⟨ar, o1, fp⟩ := ar_vals rp
  refine ⟨_, _, _, ar, o1, hS, fun r ms v H' q2 hk hm' rr => ?_, fun y ms cls d H' q2 hk hm' er => ?_⟩
  · rw [fp] at hk
    have sm : Same H2 H' := fun a o h => hk a o h (by simp)
    exact ret_end x2 g2 (g2.same sm) (Mv.same sm) (fun _ h => h) rr q2 k
  · rw [fp] at hk
    have sm : Same H2 H' := fun a o h => hk a o h (by simp)
    exact ⟨_, y, g2.same sm, (up.trans x2).trans (Mv.same sm), er, q2⟩
theorem Rps.app3 {K : PySem.W.Frag} {H : Hp} {vs zs ds : List V} {a b d : List D} (h1 : Rps K H vs a) (h2 : Rps K H zs b) (h3 : Rps K H ds d) : Rps K H (vs ++ zs ++ ds) (a ++ b ++ d) := (h1.append h2).append h3
theorem Rps.ext' {K : PySem.W.Frag} {H H' : Hp} (e : Ext H H') {vs : List V} {ds : List D} (h : Rps K H vs ds) : Rps K H' vs ds := Rps.ext e h
theorem dev_cP {t : DA} (C : CalD X.prog X.w X.K X.mg X.base kk x st ps dvs kwd S) (hr : RoomG j X.A) (hk : kk ≤ j) (hg : Gl X x) {dds' : List V} (hB : ∀ {f fd}, FunD X.K x x (defArgs st) (defBody st) (defScope st) dvs kwd f fd → BndD X.K fd ps n [] pm dds') (hd : ∀ H, Rps X.K H dds' dds) (ha : DAs X c (e :: es) t)
    (hdb : (x == ("__debug__" : Str)) = false := by decide +kernel) (he : starEach (e :: es) X.env = (false, eval e X.env) :: starEach es X.env := by rfl) (hpl : (backTo pos (starEach es X.env)).any (·.1) = false := by rfl) :
    DEv X c (.Call (.Name x p) (e :: es) [] pos) (dCallX S ps.length n 0 pm dds t daNil) := fun n0 W tk => by
  obtain ⟨f, fd, F, hm, G⟩ := C.ex
  obtain ⟨tv, pa, hra⟩ := ha n0 W tk
  refine ⟨_, pe_lk (pe_gP G (hr.mono hk) tk hg hm F.kp (hB F) pa hdb he hpl), fun σ σv H Q Qv g up q k => ?_⟩
  refine hra σ σv H _ _ g up q fun ds σ1 vs H1 g1 x1 r1 ⟨l1, l2, l3, hS⟩ => ?_
  have rp := rps_perm (r1.app3 .nil (hd H1)) pm
  exact ⟨r1.length.trans l1, rfl, rp.length.trans l3, callX_end rp g1 x1 up hS k⟩
theorem dev_cQ {t : DA} (ks : List Str) (C : CalD X.prog X.w X.K X.mg X.base kk x st ps dvs kwd S) (hr : RoomG j X.A) (hk : kk ≤ j) (hg : Gl X x) {dds' : List V} (hB : ∀ {f fd}, FunD X.K x x (defArgs st) (defBody st) (defScope st) dvs kwd f fd → BndD X.K fd ps 0 ks pm dds') (hd : ∀ H, Rps X.K H dds' dds) (ha : DKw X c kws t)
    (hall : (backToKw pos (keywordEach kws X.env)).all (·.1.isSome) = true := by rfl) (hks : (backToKw pos (keywordEach kws X.env)).filterMap (·.1) = ks := by rfl)
    (hdb : (x == ("__debug__" : Str)) = false := by decide +kernel) (hpl : ((backTo pos (starEach [] X.env)).any (·.1) || (backToKw pos (keywordEach kws X.env)).any (·.1.isNone)) = false := by rfl) :
    DEv X c (.Call (.Name x p) [] kws pos) (dCallX S ps.length 0 ks.length pm dds daNil t) := fun n0 W tk => by
  obtain ⟨f, fd, F, hm, G⟩ := C.ex
  obtain ⟨tv, pa, hra⟩ := ha n0 W tk
  refine ⟨_, pe_lk (pe_gQ G (hr.mono hk) tk hg hm F.kp (hB F) pa hall hks hdb hpl), fun σ σv H Q Qv g up q k => ?_⟩
  refine hra σ σv H _ _ g up q fun ds σ1 vs H1 g1 x1 r1 ⟨l1, l2, l3, hS⟩ => ?_
  have rp := rps_perm (Rps.app3 .nil r1 (hd H1)) pm
  exact ⟨rfl, r1.length.trans l2, rp.length.trans l3, callX_end rp g1 x1 up hS k⟩
theorem dev_cN {t u : DA} (ks : List Str) (C : CalD X.prog X.w X.K X.mg X.base kk x st ps dvs kwd S) (hr : RoomG j X.A) (hk : kk ≤ j) (hg : Gl X x) {dds' : List V} (hB : ∀ {f fd}, FunD X.K x x (defArgs st) (defBody st) (defScope st) dvs kwd f fd → BndD X.K fd ps n ks pm dds') (hd : ∀ H, Rps X.K H dds' dds) (ha : DAs X c (e :: es) t) (hkw : DKw X c kws u)
    (hall : (backToKw pos (keywordEach kws X.env)).all (·.1.isSome) = true := by rfl) (hks : (backToKw pos (keywordEach kws X.env)).filterMap (·.1) = ks := by rfl)
    (hdb : (x == ("__debug__" : Str)) = false := by decide +kernel) (he : starEach (e :: es) X.env = (false, eval e X.env) :: starEach es X.env := by rfl)
    (hpl : ((backTo pos (starEach (e :: es) X.env)).any (·.1) || (backToKw pos (keywordEach kws X.env)).any (·.1.isNone)) = false := by rfl) :
    DEv X c (.Call (.Name x p) (e :: es) kws pos) (dCallX S ps.length n ks.length pm dds t u) := fun n0 W tk => by
  obtain ⟨f, fd, F, hm, G⟩ := C.ex
  obtain ⟨tv, pa, hra⟩ := ha n0 W tk
  obtain ⟨uv, pk, hrk⟩ := hkw n0 W tk
  refine ⟨_, pe_lk (pe_gN G (hr.mono hk) tk hg hm F.kp (hB F) pa pk hall hks hdb he hpl), fun σ σv H Q Qv g up q k => ?_⟩
  refine hra σ σv H _ _ g up q fun ds σ1 vs H1 g1 x1 r1 q1 => ?_
  refine hrk σ1 σv H1 _ _ g1 (up.trans x1) q1 fun es σ2 zs H2 g2 x2 r2 ⟨l1, l2, l3, hS⟩ => ?_
  have rp := rps_perm ((r1.ext x2.ext).app3 r2 (hd H2)) pm
  exact ⟨r1.length.trans l1, r2.length.trans l2, rp.length.trans l3, callX_end rp g2 (x1.trans x2) up hS k⟩
end
end DL
namespace DL
open PySem PySem.Spec PyProof.Rows L2
section
variable {X : Cx} {c : DC} {e : Expr} {es : List Expr} {p pos : Pos} {x : Str}
/-! ### a module's written values -/
structure GC (K : PySem.W.Frag) (mg : Str → Option Value) (x : Str) (d : D) : Prop where
  ex : ∃ (v : V) (u : Value), mg x = some u ∧ RelV v u ∧ ∀ H, Rp K H v d
theorem GC.dev {x : Str} {d : D} (g : GC X.K X.mg x d) (hg : Gl X x) (hd : (x == ("__debug__" : Str)) = false := by decide +kernel) : DEv X c (.Name x pos) (dC d) := by
  obtain ⟨v, u, h1, h2, h3⟩ := g.ex
  exact dev_glob hg h1 h2 h3 hd
/-- .. of what the top has written -/
structure GcIn (K : PySem.W.Frag) (x : Str) (d : D) : Prop where
  ex : ∃ (v : V) (u : Value), PySem.W.nsIn K mainGlobals x = some (some u) ∧ RelV v u ∧ ∀ H, Rp K H v d
theorem GcIn.gc {K : PySem.W.Frag} {h : Heap} {mg : Str → Option Value} {x : Str} {d : D} (I : GcIn K x d) (Xk : K.In h) (G : h.Ns mainGlobals mg) : GC K mg x d := by
  obtain ⟨v, u, h1, h2, h3⟩ := I.ex
  exact ⟨⟨v, u, PySem.W.mg_of Xk G h1, h2, h3⟩⟩
theorem gcIn_int {K : PySem.W.Frag} {x : Str} {i : Int} {t : Tok} (a : PySem.W.nsIn K mainGlobals x = some (some (.int i t))) : GcIn K x (.int i) := ⟨⟨.int i, _, a, ⟨t, rfl⟩, fun _ => .int i⟩⟩
theorem gcIn_tup {K : PySem.W.Frag} {x : Str} {T : Addr} {o : Obj} {arr : Array Value} {n : Nat} {xs : List V} {ds : List D} (a : PySem.W.nsIn K mainGlobals x = some (some (.ref T))) (lT : K.lookup T = some o) (hc : o.cls = .type "tuple") (hs : o.data = .seq arr n) (hl : arr.size ≤ sizeLine) (hv : Vals xs arr.toList) (hr : ∀ H, Rps K H xs ds) : GcIn K x (.tuple ds) :=
  ⟨⟨.ref T, _, a, rfl, fun H => .tup (.inr ⟨o, arr, n, lT, hc, hs, hl, hv⟩) (hr H)⟩⟩
/-! ### all, any, sum of lists; the less, the greater of two; divmod -/
def allD : CD
  | [.list ds], k => ∃ bs : List Bool, ds = bs.map .bool ∧ k (.bool (bs.all id))
  | _, _ => False
def anyD : CD
  | [.list ds], k => ∃ bs : List Bool, ds = bs.map .bool ∧ k (.bool (bs.any id))
  | _, _ => False
def sumD : CD
  | [.list ds], k => ∃ ns : List Int, ds = ns.map .int ∧ k (.int ns.sum)
  | _, _ => False
theorem rps_bools {K : PySem.W.Frag} {H : Hp} : ∀ {bs : List Bool} {xs : List V}, Rps K H xs (bs.map .bool) → xs = bs.map V.bl
  | [], _, .nil => rfl
  | b :: bs, _, .cons (.bl _) r => by rw [rps_bools r]; rfl
theorem rps_ints {K : PySem.W.Frag} {H : Hp} : ∀ {bs : List Int} {xs : List V}, Rps K H xs (bs.map .int) → xs = bs.map V.int
  | [], _, .nil => rfl
  | b :: bs, _, .cons (.int _) r => by rw [rps_ints r]; rfl
theorem call_allD (hc : X.calm = true) : CallD X (.builtin "all") allD := ⟨_, cr_all hc, fun ds vs H Qv Q r q k => by
  unfold allD at q
  split at q
  · cases r with
    | cons h1 h2 =>
      cases h2
      obtain ⟨bs, rfl, q⟩ := q
      obtain ⟨a, xs, rfl, e1, e2⟩ := h1.lst
      have := rps_bools e2
      subst this
      exact ⟨a, bs, rfl, .inl e1, k _ _ _ (.here (.bl _)) q⟩
  · exact q.elim⟩
theorem call_anyD (hc : X.calm = true) : CallD X (.builtin "any") anyD := ⟨_, cr_any hc, fun ds vs H Qv Q r q k => by
  unfold anyD at q
  split at q
  · cases r with
    | cons h1 h2 =>
      cases h2
      obtain ⟨bs, rfl, q⟩ := q
      obtain ⟨a, xs, rfl, e1, e2⟩ := h1.lst
      have := rps_bools e2
      subst this
      exact ⟨a, bs, rfl, .inl e1, k _ _ _ (.here (.bl _)) q⟩
  · exact q.elim⟩
theorem call_sumD (hc : X.calm = true) : CallD X (.builtin "sum") sumD := ⟨_, cr_sum hc, fun ds vs H Qv Q r q k => by
  unfold sumD at q
  split at q
  · cases r with
    | cons h1 h2 =>
      cases h2
      obtain ⟨bs, rfl, q⟩ := q
      obtain ⟨a, xs, rfl, e1, e2⟩ := h1.lst
      have := rps_ints e2
      subst this
      exact ⟨a, bs, rfl, .inl e1, k _ _ _ (.here (.int _)) q⟩
  · exact q.elim⟩
theorem boot_all' : bootBuiltins "all" = some (.builtin "all") := by decide +kernel
theorem boot_any' : bootBuiltins "any" = some (.builtin "any") := by decide +kernel
theorem boot_sum' : bootBuiltins "sum" = some (.builtin "sum") := by decide +kernel
/-! a list's items to names -/
def gLp (n : Nat) (gs : GTs) : GT
  | .list ds, σ, Q => ds.length = n ∧ gs ds σ Q
  | _, _, _ => False
theorem dg_lst {gs : GTs} {is : List Nat} {k : Nat} {p : Pos} {m : Nat} (hc : X.calm = true) (hs : DGs X c es is gs) (hn : (assignEach es X.env).length = m := by rfl) (hst : (assignEach es X.env).findIdx? (·.1) = none := by rfl) : DG X c (.Tuple es k p) is (gLp m gs) := by
  obtain ⟨gv, pg, hr⟩ := hs
  refine ⟨_, pg_lst hc pg hn hst, fun d σ σv v H Q Qv gd r q kk => ?_⟩
  cases d <;> first | exact q.elim | skip
  next ds =>
  cases r with
  | lst h1 h2 => exact ⟨_, _, rfl, .inl (rdl_un h1), h2.length.trans q.1, hr _ σ σv _ H _ _ gd h2 q.2 kk⟩
end
end DL
namespace DL
open PySem PySem.Spec PyProof.Rows L2
section
variable {X : Cx} {c : DC} {e o : Expr} {es : List Expr} {p pos : Pos} {x : Str}
/-! ### a list, turned about -/
def rvM : D → (M → Prop) → Prop
  | .list xs, k => k (.lst xs.reverse)
  | _, _ => False
def dRev (te : DT) : DM := fun W σ Q => te W σ fun r σ1 => vw σ1 r fun d => rvM d fun m => Q m σ1
theorem Rps.reverse {K : PySem.W.Frag} {H : Hp} : ∀ {vs : List V} {ds : List D}, Rps K H vs ds → Rps K H vs.reverse ds.reverse
  | _, _, .nil => .nil
  | _, _, .cons a r => by rw [List.reverse_cons, List.reverse_cons]; exact (Rps.reverse r).append (.cons a .nil)
theorem dem_rev {te : DT} {k : Nat} {p1 p2 p3 : Pos} (he : DE X c e te) : DEm X c (.Subscript e (.Slice none none (some (.UnaryOp .USub (.Constant (.int 1) k p1) p2)) p3) pos) (dRev te) := fun n W tk => by
  obtain ⟨tv, pe, hr⟩ := he n W tk
  refine ⟨_, pe_revL pe, fun σ σv H Q Qv g up q k => ?_⟩
  refine hr σ σv H _ _ g up q fun r σ1 v H1 g1 x1 rr1 q1 => ?_
  obtain ⟨d, e1, q4⟩ := vw_of q1
  have rv := g1.view rr1 e1
  cases d <;> first | exact q4.elim | skip
  next ds =>
  obtain ⟨a, ys, rfl, h1, h2⟩ := rv.lst
  refine ⟨a, ys, rfl, .inl h1, fun p hp => ?_⟩
  have sm := Same.new (o := .lst ys.reverse) hp
  exact k _ _ _ _ (g1.same sm) (x1.trans (Mv.same sm)) (Fresh.mk' (m := .lst ds.reverse) g1 x1 hp ⟨_, upd_same, h2.reverse.ext (Ext.new hp)⟩) q4
/-! ### x in l, x not in l; l a list or a tuple of data -/
def inD (f : Bool → Bool) : OD
  | d, .list ds, k => (d.depth ≤ 60 ∧ SeqAt.shaped d = true) ∧ SeqAt.shaped (.list ds) = true ∧ k (.bool (f (ds.any fun z => PyData.eqv z d)))
  | d, .tuple ds, k => (d.depth ≤ 60 ∧ SeqAt.shaped d = true) ∧ SeqAt.shaped (.tuple ds) = true ∧ k (.bool (f (ds.any fun z => PyData.eqv z d)))
  | _, _, _ => False
def rIn2 (K : PySem.W.Frag) (f : Bool → Bool) : R2 := fun v u H Q => ∃ x ds, VR K H v x ∧ (VR K H u (.list ds) ∨ VR K H u (.tuple ds)) ∧ (x.depth ≤ 60 ∧ SeqAt.shaped x = true) ∧ SeqAt.shaped (.list ds) = true ∧ Q (.bl (f (ds.any fun z => PyData.eqv z x))) H
theorem in_rel {f : Bool → Bool} {F : Value → Value → Sem Value} (h : OpR X F (rIn2 X.K f)) : OpD X F (inD f) := ⟨_, h, fun x y v u H Qv Q rx ry q k => by
  unfold inD at q
  split at q
  · exact ⟨x, _, rx, .inl ry, q.1, q.2.1, k _ _ _ (.here (.bl _)) q.2.2⟩
  · exact ⟨x, _, rx, .inr ry, q.1, q.2.1, k _ _ _ (.here (.bl _)) q.2.2⟩
  · exact q.elim⟩
theorem in_room {A : Around} {d : D} {ds : List D} (h1 : d.depth ≤ 60) (hu : A.units + 64 < cLine) : A.units + 1 + min (PyData.depthAll ds) d.depth < cLine := by
  have h2 : min (PyData.depthAll ds) d.depth ≤ d.depth := Nat.min_le_right _ _
  omega
theorem op_inD' {k : Nat} (hr : RoomG (k + 1) X.A) (B : BaseG X.prog X.base) : OpD X (compareOp .In) (inD fun b => b) := in_rel fun pins s σ H v u v' u' Q I rx ry ⟨x, ds, hx, hy, ⟨dx, sx⟩, sy, q⟩ => by
  obtain ⟨as, r1, _⟩ := hx.reads B.seer I rx
  have hu : X.A.units + 64 < cLine := hr.room.units
  rcases hy with hy | hy
  · obtain ⟨bs, r2, _⟩ := hy.reads B.seer I ry
    exact SeqAt.in_list_reads r2 r1 (SeqAt.canLay_of_shaped sy) (SeqAt.canLay_of_shaped sx) (in_room dx hu) ⟨.bl _, H, I, rfl, q⟩
  · obtain ⟨bs, r2, _⟩ := hy.reads B.seer I ry
    exact SeqAt.in_tuple_reads r2 r1 (SeqAt.canLay_of_shaped sy) (SeqAt.canLay_of_shaped sx) (in_room dx hu) ⟨.bl _, H, I, rfl, q⟩
theorem op_ninD' {k : Nat} (hr : RoomG (k + 1) X.A) (B : BaseG X.prog X.base) : OpD X (compareOp .NotIn) (inD fun b => !b) := in_rel fun pins s σ H v u v' u' Q I rx ry ⟨x, ds, hx, hy, ⟨dx, sx⟩, sy, q⟩ => by
  obtain ⟨as, r1, _⟩ := hx.reads B.seer I rx
  have hu : X.A.units + 64 < cLine := hr.room.units
  rcases hy with hy | hy
  · obtain ⟨bs, r2, _⟩ := hy.reads B.seer I ry
    exact SeqAt.notIn_list_reads r2 r1 (SeqAt.canLay_of_shaped sy) (SeqAt.canLay_of_shaped sx) (in_room dx hu) ⟨.bl _, H, I, rfl, q⟩
  · obtain ⟨bs, r2, _⟩ := hy.reads B.seer I ry
    exact SeqAt.notIn_tuple_reads r2 r1 (SeqAt.canLay_of_shaped sy) (SeqAt.canLay_of_shaped sx) (in_room dx hu) ⟨.bl _, H, I, rfl, q⟩
/-! ### l.count(x) -/
def rCntD (K : PySem.W.Frag) : V → List V → Hp → VK → Prop := fun x xs H Q => ∃ (p : Addr) (ys : List V) (ds : List D) (y : V) (d : D), x = .ref p ∧ xs = [y] ∧ Rd H p (.lst ys) ∧ VR K H (.ref p) (.list ds) ∧ VR K H y d ∧ (d.depth ≤ 60 ∧ SeqAt.shaped d = true) ∧ SeqAt.shaped (.list ds) = true ∧ Q (.int (ds.countP fun z => PyData.eqv z d : Nat)) H
theorem countP_data {h : Heap} {vs : Array Value} {xs : List PyData} {as : List Addr} {d : PyData} (rs : ReadsAll h vs.toList xs as) (hxs : PyData.canLayAll0 xs = true) :
    vs.toList.countP (fun y => PyData.eqv (SeqAt.readOf h y) d) = xs.countP (fun y => PyData.eqv y d) := by
  rw [← SeqAt.readsAll_map xs _ _ hxs rs, List.countP_map]
  rfl
theorem mt_countD {k : Nat} (hr : RoomG (k + 1) X.A) (B : BaseG X.prog X.base) : MtR X "list.count" (rCntD X.K) := by
  intro pins s σ H x xs v us Q I rx rxs h
  obtain ⟨p, ys, ds, y, d, rfl, rfl, hs, hl, hd, ⟨dd', sd⟩, sl, q⟩ := h
  cases rx
  obtain ⟨u, rfl, ru⟩ := rxs.one
  have hu : X.A.units + 64 < cLine := hr.room.units
  obtain ⟨as, r1, _⟩ := hd.reads B.seer I ru
  obtain ⟨bs, r2, _⟩ := hl.reads B.seer I rfl
  obtain ⟨its, rv, ⟨⟨cls, dd, data, sl'⟩, n, ho, hc, hdn, hdt⟩, hlen⟩ := I.list (.inl hs)
  simp only at hc hdt
  subst hc hdt
  cases r2 with
  | list h1 h2 h3 h4 =>
    rw [ho] at h1
    cases h1
    simp only at h3
    cases h3
    refine call_meets PySem.F.slot_list_count ⟨_, ho, rfl⟩ PySem.F.entry_list_count (PySem.F.args_list_count_2 _ _)
      (SeqAt.list_countAt p its.toArray n dd sl' u fun y => PyData.eqv (SeqAt.readOf s.heap y) d) ⟨ho, SeqAt.items_eqAt h4 r1 (SeqAt.canLay_of_shaped sl) (SeqAt.canLay_of_shaped sd) (in_room dd' hu), ?_⟩
    refine ⟨.int (ds.countP fun z => PyData.eqv z d : Nat), H, I.tok _, ⟨s.toks, ?_⟩, q⟩
    rw [countP_data h4 (SeqAt.canLay_of_shaped sl)]
/-- a method of a list, one operand, told by data -/
def cnD : D → D → (D → Prop) → Prop
  | .list ds, d, k => (d.depth ≤ 60 ∧ SeqAt.shaped d = true) ∧ SeqAt.shaped (.list ds) = true ∧ k (.int (ds.countP fun z => PyData.eqv z d : Nat))
  | _, _, _ => False
def dCnt (te : DT) (ta : DV) : DV := fun W σ Q => te W σ fun r σ1 => vw σ1 r fun l1 => (∃ ds, l1 = .list ds) ∧ ta W σ1 fun d σ2 => vw σ2 r fun l => cnD l d fun z => Q z σ2
theorem dev_cnt {kk : Nat} (hr : RoomG (kk + 1) X.A) (B : BaseG X.prog X.base) {te : DT} {ta : DV} {apos cpos : Pos} (ho : DE X c o te) (he : DEv X c e ta)
    (pb : ∀ (to : TE) (ta : TA), PE X o to → PA X [e] ta → PE X (.Call (.Attribute o "count" apos) [e] [] cpos) (tBM X.K "list" (rCntD X.K) to ta) := by exact fun to ta a b => pe_bm PySem.F.plainAttrs_list PySem.F.slot_list_count PySem.F.type_list_count (mt_countD hr B) a b)
    (hst : starEach [e] X.env = (false, eval e X.env) :: starEach [] X.env := by rfl) : DEv X c (.Call (.Attribute o "count" apos) [e] [] cpos) (dCnt te ta) := fun n W tk => by
  obtain ⟨ov, po, hro⟩ := ho n W tk
  obtain ⟨tv, pa, hra⟩ := da_cons he da_nil hst n W tk
  refine ⟨_, pb _ _ po pa, fun σ σv H Q Qv g up q k => ?_⟩
  refine hro σ σv H _ _ g up q fun r σ1 v H1 g1 x1 rr1 q1 => ?_
  obtain ⟨l1, e1, ⟨ds1, rfl⟩, q1⟩ := vw_of q1
  have rv1 := g1.view rr1 e1
  obtain ⟨a, ys1, rfl, h1, h2⟩ := rv1.lst
  refine ⟨.inl ⟨rfl, ys1, .inl h1⟩, hra σ1 σv H1 (fun ds σ2 => match ds with | [d] => vw σ2 r fun l => cnD l d fun z => Q z σ2 | _ => False) _ g1 (up.trans x1) q1 fun ds σ2 vs H2 g2 x2 r2 q2 => ?_⟩
  cases r2 with
  | nil => exact q2.elim
  | cons h1 r3 =>
    cases r3 with
    | cons _ _ => exact q2.elim
    | nil =>
      obtain ⟨l, e1, q4⟩ := vw_of q2
      have rv := g2.view (rr1.ext x2.ext) e1
      cases l <;> first | exact q4.elim | skip
      next ds =>
      obtain ⟨a, ys, e0, h3, h4⟩ := rv.lst
      cases e0
      exact ⟨_, ys, ds, _, _, rfl, rfl, h3, rv, .inl h1, q4.1, q4.2.1, k _ _ _ _ g2 (x1.trans x2) (.int _) q4.2.2⟩
end
end DL
/-! Typed readings: a program text as a function over Lean types. -/
namespace TL
open PySem PySem.Spec PyProof.Rows L2 DL

inductive Pm (ω : Type) where
  | ok (a : ω)
  | ex (x : XD)
  | bad
def bd {α β : Type} (m : Pm α) (k : α → Pm β) : Pm β := match m with
  | .ok a => k a
  | .ex x => .ex x
  | .bad => .bad
structure Ka (ω : Type) where
  P : ω → Prop
  X : XD → Prop
def Sat {ω : Type} (κ : Ka ω) (m : Pm ω) : Prop := match m with
  | .ok a => κ.P a
  | .ex x => κ.X x
  | .bad => False
theorem sat_bd {α β : Type} {κ : Ka β} {m : Pm α} {k : α → Pm β} (h : Sat κ (bd m k)) : Sat ⟨fun a => Sat κ (k a), κ.X⟩ m := by
  cases m <;> exact h

/-- lists and tuples of one kind -/
abbrev dL {α : Type} (t : α → D) : List α → D := fun xs => .list (xs.map t)
abbrev dT {α : Type} (t : α → D) : List α → D := fun xs => .tuple (xs.map t)
abbrev mL {α : Type} (t : α → D) : List α → M := fun xs => .lst (xs.map t)
/-! ### states -/
section
variable {ε ε' ε'' α β : Type}
def EnN : Unit → DS → Prop := fun _ σ => σ = []
def EnV (T : α → D) (E : ε → DS → Prop) : α × ε → DS → Prop := fun s σ => ∃ σ', σ = .val (T s.1) :: σ' ∧ E s.2 σ'
def EnO (T : α → M) (E : ε → DS → Prop) : α × ε → DS → Prop := fun s σ => ∃ σ', σ = .ow (T s.1) :: σ' ∧ E s.2 σ'
def EnX (E : ε → DS → Prop) : ε → DS → Prop := fun s σ => ∃ z σ', σ = z :: σ' ∧ E s σ'
variable {E : ε → DS → Prop} {E' : ε' → DS → Prop} {T : α → D} {TM : α → M} {T' : β → D} {TM' : β → M} {i : Nat}
/-- slot i holds a datum, own object -/
structure SV (E : ε → DS → Prop) (i : Nat) (T : α → D) (get : ε → α) : Prop where
  g : ∀ s σ, E s σ → σ[i]? = some (.val (T (get s)))
structure SO (E : ε → DS → Prop) (i : Nat) (T : α → M) (get : ε → α) : Prop where
  g : ∀ s σ, E s σ → σ[i]? = some (.ow (T (get s)))
theorem sv0 : SV (EnV T E) 0 T (fun s => s.1) := ⟨fun s σ ⟨σ', e, _⟩ => by subst e; rfl⟩
theorem so0 : SO (EnO TM E) 0 TM (fun s => s.1) := ⟨fun s σ ⟨σ', e, _⟩ => by subst e; rfl⟩
theorem svV {g : ε → α} (h : SV E i T g) : SV (EnV T' E) (i + 1) T (fun s => g s.2) := ⟨fun s σ ⟨σ', e, r⟩ => by subst e; exact h.g _ _ r⟩
theorem svO {g : ε → α} (h : SV E i T g) : SV (EnO TM' E) (i + 1) T (fun s => g s.2) := ⟨fun s σ ⟨σ', e, r⟩ => by subst e; exact h.g _ _ r⟩
theorem svX {g : ε → α} (h : SV E i T g) : SV (EnX E) (i + 1) T g := ⟨fun s σ ⟨_, σ', e, r⟩ => by subst e; exact h.g _ _ r⟩
theorem soV {g : ε → α} (h : SO E i TM g) : SO (EnV T' E) (i + 1) TM (fun s => g s.2) := ⟨fun s σ ⟨σ', e, r⟩ => by subst e; exact h.g _ _ r⟩
theorem soO {g : ε → α} (h : SO E i TM g) : SO (EnO TM' E) (i + 1) TM (fun s => g s.2) := ⟨fun s σ ⟨σ', e, r⟩ => by subst e; exact h.g _ _ r⟩
theorem soX {g : ε → α} (h : SO E i TM g) : SO (EnX E) (i + 1) TM g := ⟨fun s σ ⟨_, σ', e, r⟩ => by subst e; exact h.g _ _ r⟩
/-- slot i is set -/
structure SS (E : ε → DS → Prop) (E' : ε' → DS → Prop) (i : Nat) (Z : α → Sl) (put : α → ε → ε') : Prop where
  p : ∀ s σ a, E s σ → E' (put a s) (σ.set i (Z a))
theorem ssVV : SS (EnV T' E) (EnV T E) 0 (fun a => .val (T a)) (fun a s => (a, s.2)) := ⟨fun s σ a ⟨σ', e, r⟩ => by subst e; exact ⟨_, rfl, r⟩⟩
theorem ssOV : SS (EnO TM' E) (EnV T E) 0 (fun a => .val (T a)) (fun a s => (a, s.2)) := ⟨fun s σ a ⟨σ', e, r⟩ => by subst e; exact ⟨_, rfl, r⟩⟩
theorem ssXV : SS (EnX E) (EnV T E) 0 (fun a => .val (T a)) (fun a s => (a, s)) := ⟨fun s σ a ⟨_, σ', e, r⟩ => by subst e; exact ⟨_, rfl, r⟩⟩
theorem ssVO : SS (EnV T' E) (EnO TM E) 0 (fun a => .ow (TM a)) (fun a s => (a, s.2)) := ⟨fun s σ a ⟨σ', e, r⟩ => by subst e; exact ⟨_, rfl, r⟩⟩
theorem ssOO : SS (EnO TM' E) (EnO TM E) 0 (fun a => .ow (TM a)) (fun a s => (a, s.2)) := ⟨fun s σ a ⟨σ', e, r⟩ => by subst e; exact ⟨_, rfl, r⟩⟩
theorem ssXO : SS (EnX E) (EnO TM E) 0 (fun a => .ow (TM a)) (fun a s => (a, s)) := ⟨fun s σ a ⟨_, σ', e, r⟩ => by subst e; exact ⟨_, rfl, r⟩⟩
theorem ssXX {Z : α → Sl} : SS (EnX E) (EnX E) 0 Z (fun _ s => s) := ⟨fun s σ a ⟨_, σ', e, r⟩ => by subst e; exact ⟨_, _, rfl, r⟩⟩
theorem ssV {Z : α → Sl} {p : α → ε → ε'} (h : SS E E' i Z p) : SS (EnV T' E) (EnV T' E') (i + 1) Z (fun a s => (s.1, p a s.2)) := ⟨fun s σ a ⟨σ', e, r⟩ => by subst e; exact ⟨_, rfl, h.p _ _ _ r⟩⟩
theorem ssO {Z : α → Sl} {p : α → ε → ε'} (h : SS E E' i Z p) : SS (EnO TM' E) (EnO TM' E') (i + 1) Z (fun a s => (s.1, p a s.2)) := ⟨fun s σ a ⟨σ', e, r⟩ => by subst e; exact ⟨_, rfl, h.p _ _ _ r⟩⟩
theorem ssX {Z : α → Sl} {p : α → ε → ε'} (h : SS E E' i Z p) : SS (EnX E) (EnX E') (i + 1) Z p := ⟨fun s σ a ⟨_, σ', e, r⟩ => by subst e; exact ⟨_, _, rfl, h.p _ _ _ r⟩⟩
/-- what is known, forgotten in part -/
structure WK (E : ε → DS → Prop) (E' : ε' → DS → Prop) (w : ε → ε') : Prop where
  w : ∀ s σ, E s σ → E' (w s) σ
theorem wkR : WK E E (fun s => s) := ⟨fun _ _ h => h⟩
theorem wkV {w : ε → ε'} (h : WK E E' w) : WK (EnV T E) (EnV T E') (fun s => (s.1, w s.2)) := ⟨fun s σ ⟨σ', e, r⟩ => ⟨σ', e, h.w _ _ r⟩⟩
theorem wkO {w : ε → ε'} (h : WK E E' w) : WK (EnO TM E) (EnO TM E') (fun s => (s.1, w s.2)) := ⟨fun s σ ⟨σ', e, r⟩ => ⟨σ', e, h.w _ _ r⟩⟩
theorem wkX {w : ε → ε'} (h : WK E E' w) : WK (EnX E) (EnX E') w := ⟨fun s σ ⟨z, σ', e, r⟩ => ⟨z, σ', e, h.w _ _ r⟩⟩
theorem wkVX {w : ε → ε'} (h : WK E E' w) : WK (EnV T E) (EnX E') (fun s => w s.2) := ⟨fun s σ ⟨σ', e, r⟩ => ⟨_, σ', e, h.w _ _ r⟩⟩
theorem wkOX {w : ε → ε'} (h : WK E E' w) : WK (EnO TM E) (EnX E') (fun s => w s.2) := ⟨fun s σ ⟨σ', e, r⟩ => ⟨_, σ', e, h.w _ _ r⟩⟩
/-- a slot's datum read otherwise -/
theorem wkVV {w : ε → ε'} {u : α → β} (hu : ∀ a, T a = T' (u a)) (h : WK E E' w) : WK (EnV T E) (EnV T' E') (fun s => (u s.1, w s.2)) := ⟨fun s σ ⟨σ', e, r⟩ => ⟨σ', by rw [e, hu], h.w _ _ r⟩⟩
/-- slots forgotten -/
structure FG (E : ε → DS → Prop) (vs : List Nat) : Prop where
  f : ∀ s σ, E s σ → E s (forget σ vs)
theorem ssXn {E : ε → DS → Prop} {i : Nat} (h : SS (α := Unit) E E i (fun _ => .no) (fun _ s => s)) {vs : List Nat} (r : FG E vs) : FG E (i :: vs) := ⟨fun s σ e => h.p _ _ () (r.f _ _ e)⟩
theorem fg0 : FG E [] := ⟨fun _ _ h => h⟩
end

/-! ### judgements -/
abbrev FE (ε ε' α : Type) := (ω : Type) → ε → (α → ε' → Pm ω) → Pm ω
section
variable {X : Cx} {c : DC} {EX : DS → Prop} {ε ε1 ε2 ε3 ε' α β γ δ : Type} {E : ε → DS → Prop} {E1 : ε1 → DS → Prop} {E2 : ε2 → DS → Prop} {E3 : ε3 → DS → Prop} {E' : ε' → DS → Prop}
/-- an expression's value, for good -/
def TM (X : Cx) (c : DC) (EX : DS → Prop) (E : ε → DS → Prop) (E' : ε' → DS → Prop) (T : α → D) (e : Expr) (f : FE ε ε' α) : Prop :=
  ∃ t : DV, DEv X c e t ∧ ∀ (ω : Type) (s : ε) (σ : DS) (k : α → ε' → Pm ω) (κ : Ka ω) (W : DK) (Q : D → DS → Prop), E s σ → Sat κ (f ω s k) →
    (∀ a s' σ', E' s' σ' → Sat κ (k a s') → Q (T a) σ') → (∀ x σ', EX σ' → κ.X x → W x σ') → t W σ Q
/-- as it stands -/
def TR (X : Cx) (c : DC) (EX : DS → Prop) (E : ε → DS → Prop) (E' : ε' → DS → Prop) (T : α → D) (e : Expr) (f : FE ε ε' α) : Prop :=
  ∃ t : DT, DE X c e t ∧ ∀ (ω : Type) (s : ε) (σ : DS) (k : α → ε' → Pm ω) (κ : Ka ω) (W : DK) (Q : R → DS → Prop), E s σ → Sat κ (f ω s k) →
    (∀ a r s' σ', E' s' σ' → Sat κ (k a s') → view σ' r = some (T a) → Q r σ') → (∀ x σ', EX σ' → κ.X x → W x σ') → t W σ Q
/-- a new object -/
def TN (X : Cx) (c : DC) (EX : DS → Prop) (E : ε → DS → Prop) (E' : ε' → DS → Prop) (T : α → M) (e : Expr) (f : FE ε ε' α) : Prop :=
  ∃ t : DM, DEm X c e t ∧ ∀ (ω : Type) (s : ε) (σ : DS) (k : α → ε' → Pm ω) (κ : Ka ω) (W : DK) (Q : M → DS → Prop), E s σ → Sat κ (f ω s k) →
    (∀ a s' σ', E' s' σ' → Sat κ (k a s') → Q (T a) σ') → (∀ x σ', EX σ' → κ.X x → W x σ') → t W σ Q
/-- a test -/
def TB (X : Cx) (c : DC) (EX : DS → Prop) (E : ε → DS → Prop) (E' : ε' → DS → Prop) (e : Expr) (f : FE ε ε' Bool) : Prop :=
  ∃ t : DB, DBt X c e t ∧ ∀ (ω : Type) (s : ε) (σ : DS) (k : Bool → ε' → Pm ω) (κ : Ka ω) (W : DK) (Q : Bool → DS → Prop), E s σ → Sat κ (f ω s k) →
    (∀ a s' σ', E' s' σ' → Sat κ (k a s') → Q a σ') → (∀ x σ', EX σ' → κ.X x → W x σ') → t W σ Q
/-- written items -/
def TA (X : Cx) (c : DC) (EX : DS → Prop) (E : ε → DS → Prop) (E' : ε' → DS → Prop) (T : α → List D) (es : List Expr) (f : FE ε ε' α) : Prop :=
  ∃ t : DA, DAs X c es t ∧ ∀ (ω : Type) (s : ε) (σ : DS) (k : α → ε' → Pm ω) (κ : Ka ω) (W : DK) (Q : List D → DS → Prop), E s σ → Sat κ (f ω s k) →
    (∀ a s' σ', E' s' σ' → Sat κ (k a s') → Q (T a) σ') → (∀ x σ', EX σ' → κ.X x → W x σ') → t W σ Q

/-- what changes nothing -/
theorem pure_of {β : Type} {tq : (DK → DS → (β → DS → Prop) → Prop)} {u : α → β} {f : FE ε ε α}
    (h : ∀ (ω : Type) (s : ε) (σ : DS) (k : α → ε → Pm ω) (κ : Ka ω) (W : DK) (Q : β → DS → Prop), E s σ → Sat κ (f ω s k) → (∀ a s' σ', E s' σ' → Sat κ (k a s') → Q (u a) σ') → (∀ x σ', EX σ' → κ.X x → W x σ') → tq W σ Q)
    (hp : ∀ ω s (k : α → ε → Pm ω), f ω s k = f ω s fun a _ => k a s) :
    ∀ (ω : Type) (s : ε) (σ : DS) (k : α → Pm ω) (κ : Ka ω) (W : DK) (Q : β → DS → Prop), E s σ → Sat κ (f ω s fun a _ => k a) → (∀ a σ', E s σ' → Sat κ (k a) → Q (u a) σ') → (∀ x σ', EX σ' → κ.X x → W x σ') → tq W σ Q := fun ω s σ k κ W Q hE q hk hx => by
  have de : DecidableEq ε := fun a b => Classical.propDecidable (a = b)
  refine h ω s σ (fun a s' => if s' = s then k a else .bad) κ W Q hE ?_ (fun a s' σ' e' q' => ?_) hx
  · rw [hp]
    have : (fun (a : α) (_ : ε) => if s = s then k a else .bad) = fun a _ => k a := by funext a _; exact if_pos rfl
    rw [this]
    exact q
  · by_cases z : s' = s
    · subst z
      rw [if_pos rfl] at q'
      exact hk a σ' e' q'
    · rw [if_neg z] at q'
      exact q'.elim
variable {e a b : Expr} {es : List Expr} {pos : Pos} {i j : Nat} {T : α → D} {T1 : α → D} {T2 : β → D} {T3 : γ → D} {TO : α → M} {f : FE ε ε' α}

theorem vw_view {σ : DS} {r : R} {d : D} {k : D → Prop} (h : view σ r = some d) (hk : k d) : vw σ r k := by unfold vw; rw [h]; exact hk

/-! names, constants -/
theorem tm_name (h : DE X c e (dName j)) {get : ε → α} (g : SV E j T get) : TM X c EX E E T e (fun _ s k => k (get s) s) :=
  ⟨_, dev_take h, fun ω s σ k κ W Q hE h hk hx => by
    show dName j W σ _
    unfold dName
    rw [g.g s σ hE]
    exact hk _ _ _ hE h⟩
theorem tr_own (h : DE X c e (dName j)) {get : ε → α} (g : SO E j TO get) (hv : ∀ a, (TO a).view = T a) : TR X c EX E E T e (fun _ s k => k (get s) s) :=
  ⟨_, h, fun ω s σ k κ W Q hE h hk hx => by
    unfold dName
    rw [g.g s σ hE]
    refine hk _ _ _ _ hE h ?_
    show (match σ[j]? with
    | some (.val d) => some d
    | some (.ow m) => some m.view
    | _ => none) = _
    rw [g.g s σ hE, ← hv]⟩
/-- an own object's name: from here on it stands -/
theorem tm_take (h : DE X c e (dName j)) {get : ε → α} (g : SO E j TO get) {put : α → ε → ε'} (st : SS E E' j (fun a => .val (T a)) put) (hv : ∀ a, (TO a).view = T a) : TM X c EX E E' T e (fun _ s k => k (get s) (put (get s) s)) :=
  ⟨_, dev_take h, fun ω s σ k κ W Q hE h hk hx => by
    show dName j W σ _
    unfold dName
    rw [g.g s σ hE]
    show tkD σ (.s j) Q
    unfold tkD
    dsimp only
    rw [g.g s σ hE]
    show Q (TO (get s)).view (σ.set j (.val (TO (get s)).view))
    rw [hv]
    exact hk _ _ _ (st.p _ _ _ hE) h⟩
theorem tr_of (h : TM X c EX E E' T e f) : TR X c EX E E' T e f := by
  obtain ⟨t, j, h⟩ := h
  exact ⟨_, de_val j, fun ω s σ k κ W Q hE hs hk hx => h ω s σ k κ W _ hE hs (fun a s' σ' e' h' => hk a (.d (T a)) s' σ' e' h' rfl) hx⟩
theorem tm_c {d : D} (h : DEv X c e (dC d)) (v : α) (hv : T v = d) : TM X c EX E E T e (fun _ s k => k v s) :=
  ⟨_, h, fun ω s σ k κ W Q hE q hk hx => by subst hv; exact hk _ _ _ hE q⟩
theorem tm_lock {f : FE ε ε' α} (h : TN X c EX E E' TO e f) (hv : ∀ a, (TO a).view = T a) : TM X c EX E E' T e f := by
  obtain ⟨t, j, h⟩ := h
  exact ⟨_, dev_lock j, fun ω s σ k κ W Q hE hs hk hx => h ω s σ k κ W _ hE hs (fun a s' σ' e' h' => by show Q (TO a).view σ'; rw [hv]; exact hk _ _ _ e' h') hx⟩
/-- a value read as another type -/
theorem tm_as {T' : β → D} (u : α → β) (h : TM X c EX E E' T e f) (hu : ∀ a, T a = T' (u a)) : TM X c EX E E' T' e (fun ω s k => f ω s fun a s' => k (u a) s') := by
  obtain ⟨t, j, h⟩ := h
  exact ⟨t, j, fun ω s σ k κ W Q hE hs hk hx => h ω s σ _ κ W _ hE hs (fun a s' σ' e' h' => by rw [hu]; exact hk _ _ _ e' h') hx⟩

/-! items -/
theorem ta_nil : TA X c EX E E (fun (_ : Unit) => []) [] (fun _ s k => k () s) := ⟨_, da_nil, fun ω s σ k κ W Q hE h hk hx => hk _ _ _ hE h⟩
theorem ta_cons {Ts : β → List D} {f : FE ε ε1 α} {g : FE ε1 ε2 β} (h : TM X c EX E E1 T e f) (hs : TA X c EX E1 E2 Ts es g) (hst : starEach (e :: es) X.env = (false, eval e X.env) :: starEach es X.env := by rfl) :
    TA X c EX E E2 (fun (p : α × β) => T p.1 :: Ts p.2) (e :: es) (fun ω s k => f ω s fun a s1 => g ω s1 fun b s2 => k (a, b) s2) := by
  obtain ⟨t, j, h⟩ := h
  obtain ⟨u, js, hs⟩ := hs
  exact ⟨_, da_cons j js hst, fun ω s σ k κ W Q hE q hk hx => h ω s σ _ κ W _ hE q (fun a s1 σ1 e1 q1 => hs ω s1 σ1 _ κ W _ e1 q1 (fun b s2 σ2 e2 q2 => hk (a, b) s2 σ2 e2 q2) hx) hx⟩
theorem tm_tup {Ts : α → List D} {T : β → D} {x1} (mk : α → β) (h : TA X c EX E E' Ts es f) (hT : ∀ a, .tuple (Ts a) = T (mk a)) (hl : ∀ a, (Ts a).length ≤ sizeLine) : TM X c EX E E' T (.Tuple es x1 pos) (fun ω s k => f ω s fun a s' => k (mk a) s') := by
  obtain ⟨t, j, h⟩ := h
  exact ⟨_, dev_tup j, fun ω s σ k κ W Q hE q hk hx => h ω s σ _ κ W _ hE q (fun a s1 σ1 e1 q1 => ⟨hl a, by rw [hT]; exact hk _ _ _ e1 q1⟩) hx⟩
theorem tn_lst {Ts : α → List D} {T : β → M} (mk : α → β) (h : TA X c EX E E' Ts es f) (hT : ∀ a, .lst (Ts a) = T (mk a)) (hl : ∀ a, (Ts a).length ≤ sizeLine) : TN X c EX E E' T (.List es pos) (fun ω s k => f ω s fun a s' => k (mk a) s') := by
  obtain ⟨t, j, h⟩ := h
  exact ⟨_, dem_lst j, fun ω s σ k κ W Q hE q hk hx => h ω s σ _ κ W _ hE q (fun a s1 σ1 e1 q1 => ⟨hl a, by rw [hT]; exact hk _ _ _ e1 q1⟩) hx⟩

/-! operations -/
def OpC (od : OD) (T1 : α → D) (T2 : β → D) (T3 : γ → D) (g : (ω : Type) → α → β → (γ → Pm ω) → Pm ω) : Prop :=
  ∀ (ω : Type) (a : α) (b : β) (k : γ → Pm ω) (κ : Ka ω) (Q : D → Prop), Sat κ (g ω a b k) → (∀ c, Sat κ (k c) → Q (T3 c)) → od (T1 a) (T2 b) Q
def OpCM (od : OM) (T1 : α → D) (T2 : β → D) (T3 : γ → M) (g : (ω : Type) → α → β → (γ → Pm ω) → Pm ω) : Prop :=
  ∀ (ω : Type) (a : α) (b : β) (k : γ → Pm ω) (κ : Ka ω) (Q : M → Prop), Sat κ (g ω a b k) → (∀ c, Sat κ (k c) → Q (T3 c)) → od (T1 a) (T2 b) Q
variable {od : OD} {om : OM} {g : (ω : Type) → α → β → (γ → Pm ω) → Pm ω} {fa : FE ε ε1 α} {fb : FE ε1 ε2 β} {fb0 : FE ε ε2 β}
theorem op_vv {ta tb : DT} (hg : OpC od T1 T2 T3 g) {ω : Type} {s : ε} {σ : DS} {k : γ → ε2 → Pm ω} {κ : Ka ω} {W : DK} {Q : D → DS → Prop}
    (ha : ∀ (k : α → ε1 → Pm ω) (Q : R → DS → Prop), Sat κ (fa ω s k) → (∀ a s' σ', E1 s' σ' → Sat κ (k a s') → Q (.d (T1 a)) σ') → ta W σ Q)
    (hb : ∀ s σ (k : β → ε2 → Pm ω) (Q : R → DS → Prop), E1 s σ → Sat κ (fb ω s k) → (∀ a r s' σ', E2 s' σ' → Sat κ (k a s') → view σ' r = some (T2 a) → Q r σ') → tb W σ Q)
    (q : Sat κ (fa ω s fun x s1 => fb ω s1 fun y s2 => g ω x y fun z => k z s2)) (hk : ∀ a s' σ', E2 s' σ' → Sat κ (k a s') → Q (T3 a) σ') : dOp od ta tb W σ Q := by
  refine ha _ _ q fun x s1 σ1 e1 q1 => hb s1 σ1 _ _ e1 q1 fun y r s2 σ2 e2 q2 hv => ?_
  show vw σ2 (.d (T1 x)) _
  refine vw_view rfl (vw_view hv ?_)
  exact hg ω x y _ κ _ q2 fun z q3 => hk _ _ _ e2 q3
theorem op_ov (hg : OpC od T1 T2 T3 g) {tb : DT} {TO : α → M} {get : ε2 → α} (o2 : SO E2 j TO get) (hv : ∀ a, (TO a).view = T1 a) {ω : Type} {s : ε} {σ : DS} {k : γ → ε2 → Pm ω} {κ : Ka ω} {W : DK} {Q : D → DS → Prop}
    {m0 : M} (h0 : σ[j]? = some (.ow m0))
    (hb : ∀ (k : β → ε2 → Pm ω) (Q : R → DS → Prop), Sat κ (fb0 ω s k) → (∀ a r s' σ', E2 s' σ' → Sat κ (k a s') → view σ' r = some (T2 a) → Q r σ') → tb W σ Q)
    (q : Sat κ (fb0 ω s fun y s2 => g ω (get s2) y fun z => k z s2)) (hk : ∀ a s' σ', E2 s' σ' → Sat κ (k a s') → Q (T3 a) σ') : dOp od (dName j) tb W σ Q := by
  show dName j W σ _
  unfold dName
  rw [h0]
  refine hb _ _ q fun y r s2 σ2 e2 q2 hv2 => ?_
  refine vw_view (d := T1 (get s2)) ?_ (vw_view hv2 ?_)
  · show (match σ2[j]? with
    | some (.val d) => some d
    | some (.ow m) => some m.view
    | _ => none) = _
    rw [o2.g _ _ e2, ← hv]
  exact hg ω _ y _ κ _ q2 fun z q3 => hk _ _ _ e2 q3
theorem tm_bin {op : Operator} (ho : OpD X (binaryOp op) od) (hg : OpC od T1 T2 T3 g) (ha : TM X c EX E E1 T1 a fa) (hb : TR X c EX E1 E2 T2 b fb) : TM X c EX E E2 T3 (.BinOp a op b pos) (fun ω s k => fa ω s fun x s1 => fb ω s1 fun y s2 => g ω x y fun z => k z s2) := by
  obtain ⟨ta, ja, ha⟩ := ha
  obtain ⟨tb, jb, hb⟩ := hb
  exact ⟨_, dev_bin ho (de_val ja) jb, fun ω s σ k κ W Q hE q hk hx => op_vv hg (fun k Q q hk => ha ω s σ k κ W _ hE q (fun a s' σ' e' h' => hk a s' σ' e' h') hx) (fun s σ k Q e q hk => hb ω s σ k κ W Q e q hk hx) q hk⟩
theorem tm_binO {op : Operator} (ho : OpD X (binaryOp op) od) (hg : OpC od T1 T2 T3 g) (ha : DE X c a (dName j)) {TO : α → M} {get1 : ε → α} (o1 : SO E j TO get1) {get : ε2 → α} (o2 : SO E2 j TO get) (hv : ∀ a, (TO a).view = T1 a) (hb : TR X c EX E E2 T2 b fb0) :
    TM X c EX E E2 T3 (.BinOp a op b pos) (fun ω s k => fb0 ω s fun y s2 => g ω (get s2) y fun z => k z s2) := by
  obtain ⟨tb, jb, hb⟩ := hb
  exact ⟨_, dev_bin ho ha jb, fun ω s σ k κ W Q hE q hk hx => op_ov hg o2 hv (o1.g _ _ hE) (fun k Q q hk => hb ω s σ k κ W Q hE q hk hx) q hk⟩
theorem tm_cmp {op : CmpOp} (ho : OpD X (compareOp op) od) (hg : OpC od T1 T2 T3 g) (ha : TM X c EX E E1 T1 a fa) (hb : TR X c EX E1 E2 T2 b fb) (hm : behindInMarks op b = false) : TM X c EX E E2 T3 (.Compare a [op] [b] pos) (fun ω s k => fa ω s fun x s1 => fb ω s1 fun y s2 => g ω x y fun z => k z s2) := by
  obtain ⟨ta, ja, ha⟩ := ha
  obtain ⟨tb, jb, hb⟩ := hb
  exact ⟨_, dev_cmp ho (de_val ja) jb hm, fun ω s σ k κ W Q hE q hk hx => op_vv hg (fun k Q q hk => ha ω s σ k κ W _ hE q (fun a s' σ' e' h' => hk a s' σ' e' h') hx) (fun s σ k Q e q hk => hb ω s σ k κ W Q e q hk hx) q hk⟩
theorem tm_cmpO {op : CmpOp} (ho : OpD X (compareOp op) od) (hg : OpC od T1 T2 T3 g) (ha : DE X c a (dName j)) {TO : α → M} {get1 : ε → α} (o1 : SO E j TO get1) {get : ε2 → α} (o2 : SO E2 j TO get) (hv : ∀ a, (TO a).view = T1 a) (hb : TR X c EX E E2 T2 b fb0) (hm : behindInMarks op b = false) :
    TM X c EX E E2 T3 (.Compare a [op] [b] pos) (fun ω s k => fb0 ω s fun y s2 => g ω (get s2) y fun z => k z s2) := by
  obtain ⟨tb, jb, hb⟩ := hb
  exact ⟨_, dev_cmp ho ha jb hm, fun ω s σ k κ W Q hE q hk hx => op_ov hg o2 hv (o1.g _ _ hE) (fun k Q q hk => hb ω s σ k κ W Q hE q hk hx) q hk⟩
theorem tm_ix (ho : IxD X od) (hg : OpC od T1 T2 T3 g) (ha : TM X c EX E E1 T1 a fa) (hb : TR X c EX E1 E2 T2 b fb) (hs : PlainIx b := by exact fun _ _ => rfl) : TM X c EX E E2 T3 (.Subscript a b pos) (fun ω s k => fa ω s fun x s1 => fb ω s1 fun y s2 => g ω x y fun z => k z s2) := by
  obtain ⟨ta, ja, ha⟩ := ha
  obtain ⟨tb, jb, hb⟩ := hb
  exact ⟨_, dev_ix ho (de_val ja) jb hs, fun ω s σ k κ W Q hE q hk hx => op_vv hg (fun k Q q hk => ha ω s σ k κ W _ hE q (fun a s' σ' e' h' => hk a s' σ' e' h') hx) (fun s σ k Q e q hk => hb ω s σ k κ W Q e q hk hx) q hk⟩
theorem tm_ixO (ho : IxD X od) (hg : OpC od T1 T2 T3 g) (ha : DE X c a (dName j)) {TO : α → M} {get1 : ε → α} (o1 : SO E j TO get1) {get : ε2 → α} (o2 : SO E2 j TO get) (hv : ∀ a, (TO a).view = T1 a) (hb : TR X c EX E E2 T2 b fb0) (hs : PlainIx b := by exact fun _ _ => rfl) :
    TM X c EX E E2 T3 (.Subscript a b pos) (fun ω s k => fb0 ω s fun y s2 => g ω (get s2) y fun z => k z s2) := by
  obtain ⟨tb, jb, hb⟩ := hb
  exact ⟨_, dev_ix ho ha jb hs, fun ω s σ k κ W Q hE q hk hx => op_ov hg o2 hv (o1.g _ _ hE) (fun k Q q hk => hb ω s σ k κ W Q hE q hk hx) q hk⟩
/-- a written place: a[3] -/
theorem tm_ixc {n : Int} {fr : FE ε ε' α} (proj : α → γ) (ha : TR X c EX E E' T a fr) (hb : DEv X c b (dC (.int n))) (hp : ∀ a (Q : D → Prop), Q (T3 (proj a)) → ixD (T a) (.int n) Q) (hs : PlainIx b := by exact fun _ _ => rfl) :
    TM X c EX E E' T3 (.Subscript a b pos) (fun ω s k => fr ω s fun x s' => k (proj x) s') := by
  obtain ⟨ta, ja, ha⟩ := ha
  exact ⟨_, dev_ix ixd ja (de_val hb) hs, fun ω s σ k κ W Q hE q hk hx => ha ω s σ _ κ W _ hE q (fun a r s' σ' e' q' hv => by
    show vw σ' r _
    refine vw_view hv ?_
    show vw σ' (.d (.int n)) _
    refine vw_view rfl ?_
    exact hp a _ (hk _ _ _ e' q')) hx⟩
theorem tn_bin {T3 : γ → M} {op : Operator} (ho : OpM X (binaryOp op) om) (hg : OpCM om T1 T2 T3 g) (ha : TM X c EX E E1 T1 a fa) (hb : TR X c EX E1 E2 T2 b fb) : TN X c EX E E2 T3 (.BinOp a op b pos) (fun ω s k => fa ω s fun x s1 => fb ω s1 fun y s2 => g ω x y fun z => k z s2) := by
  obtain ⟨ta, ja, ha⟩ := ha
  obtain ⟨tb, jb, hb⟩ := hb
  refine ⟨_, dem_bin ho (de_val ja) jb, fun ω s σ k κ W Q hE q hk hx => ha ω s σ _ κ W _ hE q (fun x s1 σ1 e1 q1 => hb ω s1 σ1 _ κ W _ e1 q1 (fun y r s2 σ2 e2 q2 hv => ?_) hx) hx⟩
  show vw σ2 (.d (T1 x)) _
  refine vw_view rfl (vw_view hv ?_)
  exact hg ω x y _ κ _ q2 fun z q3 => hk _ _ _ e2 q3
theorem tn_binO {T3 : γ → M} {op : Operator} (ho : OpM X (binaryOp op) om) (hg : OpCM om T1 T2 T3 g) (ha : DE X c a (dName j)) {TO : α → M} {get1 : ε → α} (o1 : SO E j TO get1) {get : ε2 → α} (o2 : SO E2 j TO get) (hv : ∀ a, (TO a).view = T1 a) (hb : TR X c EX E E2 T2 b fb0) :
    TN X c EX E E2 T3 (.BinOp a op b pos) (fun ω s k => fb0 ω s fun y s2 => g ω (get s2) y fun z => k z s2) := by
  obtain ⟨tb, jb, hb⟩ := hb
  refine ⟨_, dem_bin ho ha jb, fun ω s σ k κ W Q hE q hk hx => ?_⟩
  show dName j W σ _
  unfold dName
  rw [o1.g _ _ hE]
  refine hb ω s σ _ κ W _ hE q (fun y r s2 σ2 e2 q2 hv2 => ?_) hx
  refine vw_view (d := T1 (get s2)) ?_ (vw_view hv2 ?_)
  · show (match σ2[j]? with
    | some (.val d) => some d
    | some (.ow m) => some m.view
    | _ => none) = _
    rw [o2.g _ _ e2, ← hv]
  exact hg ω _ y _ κ _ q2 fun z q3 => hk _ _ _ e2 q3
end
end TL
namespace TL
open PySem PySem.Spec PyProof.Rows L2 DL
section
variable {X : Cx} {c : DC} {EX : DS → Prop} {ε ε1 ε2 ε3 ε' α β γ δ : Type} {E : ε → DS → Prop} {E1 : ε1 → DS → Prop} {E2 : ε2 → DS → Prop} {E3 : ε3 → DS → Prop} {E' : ε' → DS → Prop}
variable {e a b b2 : Expr} {es rest : List Expr} {pos : Pos} {i j : Nat} {T : α → D} {T1 : α → D} {T2 : β → D} {T3 : γ → D} {TO : α → M} {f : FE ε ε' α}
variable {od od' : OD} {fa : FE ε ε1 α} {fb : FE ε1 ε2 β} {fb0 : FE ε ε2 β}

/-! tests -/
theorem tb_cmp {op : CmpOp} {g : (ω : Type) → α → β → (Bool → Pm ω) → Pm ω} (ho : OpD X (compareOp op) od) (hg : OpC od T1 T2 PyData.bool g) (ha : TM X c EX E E1 T1 a fa) (hb : TR X c EX E1 E2 T2 b fb) (hm : behindInMarks op b = false) : TB X c EX E E2 (.Compare a [op] [b] pos) (fun ω s k => fa ω s fun x s1 => fb ω s1 fun y s2 => g ω x y fun z => k z s2) := by
  obtain ⟨ta, ja, ha⟩ := ha
  obtain ⟨tb, jb, hb⟩ := hb
  exact ⟨_, db_cmp ho (de_val ja) jb hm, fun ω s σ k κ W Q hE q hk hx => op_vv (Q := fun d σ2 => isBl d fun k => Q k σ2) hg (fun k Q q hk => ha ω s σ k κ W _ hE q (fun a s' σ' e' h' => hk a s' σ' e' h') hx) (fun s σ k Q e q hk => hb ω s σ k κ W Q e q hk hx) q hk⟩
theorem tb_cmpO {op : CmpOp} {g : (ω : Type) → α → β → (Bool → Pm ω) → Pm ω} (ho : OpD X (compareOp op) od) (hg : OpC od T1 T2 PyData.bool g) (ha : DE X c a (dName j)) {TO : α → M} {get1 : ε → α} (o1 : SO E j TO get1) {get : ε2 → α} (o2 : SO E2 j TO get) (hv : ∀ a, (TO a).view = T1 a) (hb : TR X c EX E E2 T2 b fb0) (hm : behindInMarks op b = false) :
    TB X c EX E E2 (.Compare a [op] [b] pos) (fun ω s k => fb0 ω s fun y s2 => g ω (get s2) y fun z => k z s2) := by
  obtain ⟨tb, jb, hb⟩ := hb
  exact ⟨_, db_cmp ho ha jb hm, fun ω s σ k κ W Q hE q hk hx => op_ov (Q := fun d σ2 => isBl d fun k => Q k σ2) hg o2 hv (o1.g _ _ hE) (fun k Q q hk => hb ω s σ k κ W Q hE q hk hx) q hk⟩
/-- x op y op' z -/
theorem chain_of {g : (ω : Type) → α → β → (Bool → Pm ω) → Pm ω} {g' : (ω : Type) → β → γ → (Bool → Pm ω) → Pm ω} {fc : FE ε2 ε2 γ} (hg : OpC od T1 T2 PyData.bool g) (hg' : OpC od' T2 T3 PyData.bool g') {ta tb tc : DT} {ω : Type} {s : ε} {σ : DS} {k : Bool → ε2 → Pm ω} {κ : Ka ω} {W : DK} {Q : Bool → DS → Prop}
    (ha : ∀ (k : α → ε1 → Pm ω) (Q : R → DS → Prop), Sat κ (fa ω s k) → (∀ a s' σ', E1 s' σ' → Sat κ (k a s') → Q (.d (T1 a)) σ') → ta W σ Q)
    (hb : ∀ s σ (k : β → ε2 → Pm ω) (Q : R → DS → Prop), E1 s σ → Sat κ (fb ω s k) → (∀ a s' σ', E2 s' σ' → Sat κ (k a s') → Q (.d (T2 a)) σ') → tb W σ Q)
    (hc : ∀ s σ (k : γ → ε2 → Pm ω) (Q : R → DS → Prop), E2 s σ → Sat κ (fc ω s k) → (∀ a r s' σ', E2 s' σ' → Sat κ (k a s') → view σ' r = some (T3 a) → Q r σ') → tc W σ Q)
    (q : Sat κ (fa ω s fun x s1 => fb ω s1 fun y s2 => g ω x y fun z => if z = true then fc ω s2 fun w s3 => g' ω y w fun z' => k z' s3 else k false s2)) (hk : ∀ a s' σ', E2 s' σ' → Sat κ (k a s') → Q a σ') : bChain od od' ta tb tc W σ Q := by
  refine ha _ _ q fun x s1 σ1 e1 q1 => hb s1 σ1 _ _ e1 q1 fun y s2 σ2 e2 q2 => ?_
  show vw σ2 (.d (T1 x)) _
  refine vw_view rfl (vw_view (d := T2 y) rfl ?_)
  refine hg ω x y _ κ _ q2 fun z q3 => ?_
  show isBl (.bool z) _
  show if z = true then _ else _
  cases z with
  | false => exact hk _ _ _ e2 q3
  | true =>
    refine hc s2 σ2 _ _ e2 q3 fun w r s3 σ3 e3 q4 hv => ?_
    refine vw_view (d := T2 y) rfl (vw_view hv ?_)
    exact hg' ω y w _ κ _ q4 fun z' q5 => hk _ _ _ e3 q5
theorem tb_chain {op op' : CmpOp} {g : (ω : Type) → α → β → (Bool → Pm ω) → Pm ω} {g' : (ω : Type) → β → γ → (Bool → Pm ω) → Pm ω} {fc : FE ε2 ε2 γ} (ho : OpD X (compareOp op) od) (ho' : OpD X (compareOp op') od') (hg : OpC od T1 T2 PyData.bool g) (hg' : OpC od' T2 T3 PyData.bool g') (ha : TM X c EX E E1 T1 a fa) (hb : TM X c EX E1 E2 T2 b fb) (hc : TR X c EX E2 E2 T3 b2 fc) (hm : lastMarks [op, op'] [b, b2] = false := by with_unfolding_all rfl) :
    TB X c EX E E2 (.Compare a [op, op'] [b, b2] pos) (fun ω s k => fa ω s fun x s1 => fb ω s1 fun y s2 => g ω x y fun z => if z = true then fc ω s2 fun w s3 => g' ω y w fun z' => k z' s3 else k false s2) := by
  obtain ⟨ta, ja, ha⟩ := ha
  obtain ⟨tb, jb, hb⟩ := hb
  obtain ⟨tc, jc, hc⟩ := hc
  exact ⟨_, db_chain ho ho' (de_val ja) (de_val jb) jc hm, fun ω s σ k κ W Q hE q hk hx => chain_of hg hg' (fun k Q q hk => ha ω s σ k κ W _ hE q (fun a s' σ' e' h' => hk a s' σ' e' h') hx) (fun s σ k Q e q hk => hb ω s σ k κ W _ e q (fun a s' σ' e' h' => hk a s' σ' e' h') hx) (fun s σ k Q e q hk => hc ω s σ k κ W Q e q hk hx) q hk⟩
theorem tm_chain {op op' : CmpOp} {g : (ω : Type) → α → β → (Bool → Pm ω) → Pm ω} {g' : (ω : Type) → β → γ → (Bool → Pm ω) → Pm ω} {fc : FE ε2 ε2 γ} (ho : OpD X (compareOp op) od) (ho' : OpD X (compareOp op') od') (hg : OpC od T1 T2 PyData.bool g) (hg' : OpC od' T2 T3 PyData.bool g') (ha : TM X c EX E E1 T1 a fa) (hb : TM X c EX E1 E2 T2 b fb) (hc : TR X c EX E2 E2 T3 b2 fc) (hm : lastMarks [op, op'] [b, b2] = false := by with_unfolding_all rfl) :
    TM X c EX E E2 PyData.bool (.Compare a [op, op'] [b, b2] pos) (fun ω s k => fa ω s fun x s1 => fb ω s1 fun y s2 => g ω x y fun z => if z = true then fc ω s2 fun w s3 => g' ω y w fun z' => k z' s3 else k false s2) := by
  obtain ⟨ta, ja, ha⟩ := ha
  obtain ⟨tb, jb, hb⟩ := hb
  obtain ⟨tc, jc, hc⟩ := hc
  exact ⟨_, dev_chain ho ho' (de_val ja) (de_val jb) jc hm, fun ω s σ k κ W Q hE q hk hx => chain_of (Q := fun k σ1 => Q (.bool k) σ1) hg hg' (fun k Q q hk => ha ω s σ k κ W _ hE q (fun a s' σ' e' h' => hk a s' σ' e' h') hx) (fun s σ k Q e q hk => hb ω s σ k κ W _ e q (fun a s' σ' e' h' => hk a s' σ' e' h') hx) (fun s σ k Q e q hk => hc ω s σ k κ W Q e q hk hx) q hk⟩
/-- truth of a datum -/
def TruC (T : α → D) (tr : α → Bool) : Prop := ∀ (a : α) (k : Bool → Prop), k (tr a) → tru (T a) k
theorem tru_bool : TruC PyData.bool (fun b => b) := fun _ _ h => h
theorem tru_int : TruC PyData.int (fun i => i != 0) := fun _ _ h => h
theorem tru_none : TruC (fun (_ : Unit) => PyData.none) (fun _ => false) := fun _ _ h => h
theorem tru_list {t : α → D} : TruC (dL t) (fun xs => !xs.isEmpty) := fun xs k h => by cases xs <;> exact h
theorem tru_tupl {t : α → D} : TruC (dT t) (fun xs => !xs.isEmpty) := fun xs k h => by cases xs <;> exact h
theorem tb_tru {tr : α → Bool} (ht : TruC T tr) (h : TR X c EX E E' T e f) (he : ∀ whole, isTrue e X.env whole = (do let v ← whole; standAt e.pos; holding [v] (truthy v)) := by intro _; rfl) : TB X c EX E E' e (fun ω s k => f ω s fun a s' => k (tr a) s') := by
  obtain ⟨t, j, h⟩ := h
  exact ⟨_, db_tru j he, fun ω s σ k κ W Q hE q hk hx => h ω s σ _ κ W _ hE q (fun a r s' σ' e' q' hv => vw_view hv (ht a _ (hk _ _ _ e' q'))) hx⟩
def TW (X : Cx) (c : DC) (EX : DS → Prop) (E : ε → DS → Prop) (E' : ε' → DS → Prop) (e : Expr) (f : FE ε ε' Bool) : Prop :=
  ∃ t : DB, DW X c e t ∧ ∀ (ω : Type) (s : ε) (σ : DS) (k : Bool → ε' → Pm ω) (κ : Ka ω) (W : DK) (Q : Bool → DS → Prop), E s σ → Sat κ (f ω s k) →
    (∀ a s' σ', E' s' σ' → Sat κ (k a s') → Q a σ') → (∀ x σ', EX σ' → κ.X x → W x σ') → t W σ Q
theorem tw_and1 {f : FE ε ε' Bool} (h : TB X c EX E E' a f) : TW X c EX E E' (.BoolOp .And [a] pos) f := let ⟨t, j, h⟩ := h; ⟨t, dw_and1 j, h⟩
theorem tw_or1 {f : FE ε ε' Bool} (h : TB X c EX E E' a f) : TW X c EX E E' (.BoolOp .Or [a] pos) f := let ⟨t, j, h⟩ := h; ⟨t, dw_or1 j, h⟩
/-- the rest of a chain may leave the state as it is alone -/
theorem tw_and {f : FE ε ε1 Bool} {g : FE ε1 ε1 Bool} (h : TB X c EX E E1 a f) (h2 : TW X c EX E1 E1 (.BoolOp .And (b :: rest) pos) g) : TW X c EX E E1 (.BoolOp .And (a :: b :: rest) pos) (fun ω s k => f ω s fun z s1 => if z = true then g ω s1 k else k false s1) := by
  obtain ⟨t, j, h⟩ := h
  obtain ⟨u, j2, h2⟩ := h2
  refine ⟨_, dw_and j j2, fun ω s σ k κ W Q hE q hk hx => h ω s σ _ κ W _ hE q (fun z s1 σ1 e1 q1 => ?_) hx⟩
  show if z = true then _ else _
  cases z with
  | false => exact hk _ _ _ e1 q1
  | true => exact h2 ω s1 σ1 k κ W Q e1 q1 hk hx
theorem tw_or {f : FE ε ε1 Bool} {g : FE ε1 ε1 Bool} (h : TB X c EX E E1 a f) (h2 : TW X c EX E1 E1 (.BoolOp .Or (b :: rest) pos) g) : TW X c EX E E1 (.BoolOp .Or (a :: b :: rest) pos) (fun ω s k => f ω s fun z s1 => if z = true then k true s1 else g ω s1 k) := by
  obtain ⟨t, j, h⟩ := h
  obtain ⟨u, j2, h2⟩ := h2
  refine ⟨_, dw_or j j2, fun ω s σ k κ W Q hE q hk hx => h ω s σ _ κ W _ hE q (fun z s1 σ1 e1 q1 => ?_) hx⟩
  show if z = true then _ else _
  cases z with
  | true => exact hk _ _ _ e1 q1
  | false => exact h2 ω s1 σ1 k κ W Q e1 q1 hk hx
theorem tb_w {f : FE ε ε' Bool} (h : TW X c EX E E' e f) : TB X c EX E E' e f := let ⟨t, j, h⟩ := h; ⟨t, db_w j, h⟩
/-- a test's paths joined -/
theorem tb_join {f : FE ε ε' Bool} (h : TB X c EX E E' e f) : TB X c EX E E' e (fun ω s k => bd (f (Bool × ε') s fun z s' => .ok (z, s')) fun p => k p.1 p.2) := by
  obtain ⟨t, j, h⟩ := h
  exact ⟨t, j, fun ω s σ k κ W Q hE q hk hx => h _ s σ _ _ W Q hE (sat_bd q) (fun a s' σ' e' q' => hk a s' σ' e' q') hx⟩
/-- .. of a test that changes nothing -/
theorem tb_joinP {f : FE ε ε Bool} (h : TB X c EX E E e f) (hp : ∀ ω s (k : Bool → ε → Pm ω), f ω s k = f ω s fun z _ => k z s) : TB X c EX E E e (fun ω s k => bd (f Bool s fun z _ => .ok z) fun z => k z s) := by
  obtain ⟨t, j, h⟩ := h
  exact ⟨t, j, fun ω s σ k κ W Q hE q hk hx => pure_of (u := fun b => b) h hp Bool s σ .ok _ W Q hE (sat_bd q) (fun a σ' e' q' => hk a s σ' e' q') hx⟩
theorem tb_not {f : FE ε ε' Bool} (h : TB X c EX E E' a f) : TB X c EX E E' (.UnaryOp .Not a pos) (fun ω s k => f ω s fun z s' => k (!z) s') := by
  obtain ⟨t, j, h⟩ := h
  exact ⟨_, db_not j, fun ω s σ k κ W Q hE q hk hx => h ω s σ _ κ W _ hE q (fun z s' σ' e' q' => hk _ _ _ e' q') hx⟩
theorem tm_not {tr : α → Bool} (ht : TruC T tr) (h : TR X c EX E E' T a f) : TM X c EX E E' PyData.bool (.UnaryOp .Not a pos) (fun ω s k => f ω s fun z s' => k (!tr z) s') := by
  obtain ⟨t, j, h⟩ := h
  exact ⟨_, dev_not j, fun ω s σ k κ W Q hE q hk hx => h ω s σ _ κ W _ hE q (fun a r s' σ' e' q' hv => vw_view hv (ht a _ (hk _ _ _ e' q'))) hx⟩
/-! and, or as values -/
theorem tm_one {op} (h : TM X c EX E E' T a f) : TM X c EX E E' T (.BoolOp op [a] pos) f := let ⟨t, j, h⟩ := h; ⟨t, dev_one j, h⟩
theorem tm_and {tr : α → Bool} {f : FE ε ε1 α} {g : FE ε1 ε1 α} (ht : TruC T tr) (h : TM X c EX E E1 T a f) (h2 : TM X c EX E1 E1 T (.BoolOp .And (b :: rest) pos) g) : TM X c EX E E1 T (.BoolOp .And (a :: b :: rest) pos) (fun ω s k => f ω s fun z s1 => if tr z = true then g ω s1 k else k z s1) := by
  obtain ⟨t, j, h⟩ := h
  obtain ⟨u, j2, h2⟩ := h2
  refine ⟨_, dev_and j j2, fun ω s σ k κ W Q hE q hk hx => h ω s σ _ κ W _ hE q (fun z s1 σ1 e1 q1 => ?_) hx⟩
  refine ht z _ ?_
  show if tr z = true then _ else _
  cases e : tr z with
  | false => rw [e] at q1; exact hk _ _ _ e1 q1
  | true => rw [e] at q1; exact h2 ω s1 σ1 k κ W Q e1 q1 hk hx
theorem tm_or {tr : α → Bool} {f : FE ε ε1 α} {g : FE ε1 ε1 α} (ht : TruC T tr) (h : TM X c EX E E1 T a f) (h2 : TM X c EX E1 E1 T (.BoolOp .Or (b :: rest) pos) g) : TM X c EX E E1 T (.BoolOp .Or (a :: b :: rest) pos) (fun ω s k => f ω s fun z s1 => if tr z = true then k z s1 else g ω s1 k) := by
  obtain ⟨t, j, h⟩ := h
  obtain ⟨u, j2, h2⟩ := h2
  refine ⟨_, dev_or j j2, fun ω s σ k κ W Q hE q hk hx => h ω s σ _ κ W _ hE q (fun z s1 σ1 e1 q1 => ?_) hx⟩
  refine ht z _ ?_
  show if tr z = true then _ else _
  cases e : tr z with
  | true => rw [e] at q1; exact hk _ _ _ e1 q1
  | false => rw [e] at q1; exact h2 ω s1 σ1 k κ W Q e1 q1 hk hx
/-- paths joined -/
theorem tm_join (h : TM X c EX E E' T e f) : TM X c EX E E' T e (fun ω s k => bd (f (α × ε') s fun z s' => .ok (z, s')) fun p => k p.1 p.2) := by
  obtain ⟨t, j, h⟩ := h
  exact ⟨t, j, fun ω s σ k κ W Q hE q hk hx => h _ s σ _ _ W Q hE (sat_bd q) (fun a s' σ' e' q' => hk a s' σ' e' q') hx⟩
theorem tm_joinP {f : FE ε ε α} (h : TM X c EX E E T e f) (hp : ∀ ω s (k : α → ε → Pm ω), f ω s k = f ω s fun z _ => k z s) : TM X c EX E E T e (fun ω s k => bd (f α s fun z _ => .ok z) fun z => k z s) := by
  obtain ⟨t, j, h⟩ := h
  exact ⟨t, j, fun ω s σ k κ W Q hE q hk hx => pure_of (u := T) h hp α s σ .ok _ W Q hE (sat_bd q) (fun a σ' e' q' => hk a s σ' e' q') hx⟩
theorem tm_if {cnd : Expr} {fc : FE ε ε1 Bool} {f g : FE ε1 ε2 α} (hc : TB X c EX E E1 cnd fc) (ha : TM X c EX E1 E2 T a f) (hb : TM X c EX E1 E2 T b g) : TM X c EX E E2 T (.IfExp cnd a b pos) (fun ω s k => fc ω s fun z s1 => if z = true then f ω s1 k else g ω s1 k) := by
  obtain ⟨tc, jc, hc⟩ := hc
  obtain ⟨ta, ja, ha⟩ := ha
  obtain ⟨tb, jb, hb⟩ := hb
  refine ⟨_, dev_if jc ja jb, fun ω s σ k κ W Q hE q hk hx => hc ω s σ _ κ W _ hE q (fun z s1 σ1 e1 q1 => ?_) hx⟩
  show if z = true then _ else _
  cases z with
  | true => exact ha ω s1 σ1 k κ W Q e1 q1 hk hx
  | false => exact hb ω s1 σ1 k κ W Q e1 q1 hk hx

/-! built-ins -/
def CdC (cd : CD) (T : α → D) (T3 : γ → D) (g : (ω : Type) → α → (γ → Pm ω) → Pm ω) : Prop :=
  ∀ (ω : Type) (a : α) (k : γ → Pm ω) (κ : Ka ω) (Q : D → Prop), Sat κ (g ω a k) → (∀ c, Sat κ (k c) → Q (T3 c)) → cd [T a] Q
def CdCM (cd : CM) (T : α → D) (T3 : γ → M) (g : (ω : Type) → α → (γ → Pm ω) → Pm ω) : Prop :=
  ∀ (ω : Type) (a : α) (k : γ → Pm ω) (κ : Ka ω) (Q : M → Prop), Sat κ (g ω a k) → (∀ c, Sat κ (k c) → Q (T3 c)) → cd [T a] Q
theorem tm_call1 {cd : CD} {ec : Expr} {g : (ω : Type) → α → (γ → Pm ω) → Pm ω} (mkd : ∀ {t}, DRs X c [e] t → DEv X c ec (dCallB cd t)) (hg : CdC cd T T3 g) (h : TR X c EX E E' T e f) (hst : starEach [e] X.env = (false, eval e X.env) :: starEach [] X.env := by rfl) :
    TM X c EX E E' T3 ec (fun ω s k => f ω s fun a s' => g ω a fun z => k z s') := by
  obtain ⟨t, j, h⟩ := h
  exact ⟨_, mkd (dr_cons j dr_nil hst), fun ω s σ k κ W Q hE q hk hx => h ω s σ _ κ W _ hE q (fun a r s' σ' e' q' hv => vw_view hv (hg ω a _ κ _ q' fun z q2 => hk _ _ _ e' q2)) hx⟩
theorem tn_call1 {cd : CM} {ec : Expr} {T3 : γ → M} {g : (ω : Type) → α → (γ → Pm ω) → Pm ω} (mkd : ∀ {t}, DRs X c [e] t → DEm X c ec (dCallM cd t)) (hg : CdCM cd T T3 g) (h : TR X c EX E E' T e f) (hst : starEach [e] X.env = (false, eval e X.env) :: starEach [] X.env := by rfl) :
    TN X c EX E E' T3 ec (fun ω s k => f ω s fun a s' => g ω a fun z => k z s') := by
  obtain ⟨t, j, h⟩ := h
  exact ⟨_, mkd (dr_cons j dr_nil hst), fun ω s σ k κ W Q hE q hk hx => h ω s σ _ κ W _ hE q (fun a r s' σ' e' q' hv => vw_view hv (hg ω a _ κ _ q' fun z q2 => hk _ _ _ e' q2)) hx⟩
theorem tm_isi {Tn : String} {ec : Expr} (mkd : ∀ {t}, DE X c e t → DEv X c ec (vIsi Tn t)) (u : α → Bool) (hu : ∀ a, isiD Tn (T a) = u a) (h : TR X c EX E E' T e f) : TM X c EX E E' PyData.bool ec (fun ω s k => f ω s fun a s' => k (u a) s') := by
  obtain ⟨t, j, h⟩ := h
  exact ⟨_, mkd j, fun ω s σ k κ W Q hE q hk hx => h ω s σ _ κ W _ hE q (fun a r s' σ' e' q' hv => vw_view hv (by rw [hu]; exact hk _ _ _ e' q')) hx⟩
theorem tm_neg {f : FE ε ε' Int} (h : TR X c EX E E' PyData.int a f) : TM X c EX E E' PyData.int (.UnaryOp .USub a pos) (fun ω s k => f ω s fun z s' => k (-z) s') := by
  obtain ⟨t, j, h⟩ := h
  exact ⟨_, dev_neg j, fun ω s σ k κ W Q hE q hk hx => h ω s σ _ κ W _ hE q (fun a r s' σ' e' q' hv => vw_view hv (by show asInt (.int a) _; exact hk _ _ _ e' q')) hx⟩
theorem tm_isN {ec : Expr} {n : Bool → Bool} (mkd : ∀ {t}, DE X c e t → DEv X c ec (vIsN n t)) (u : α → Bool) (hu : ∀ a, isNone (T a) = u a) (h : TR X c EX E E' T e f) : TM X c EX E E' PyData.bool ec (fun ω s k => f ω s fun a s' => k (n (u a)) s') := by
  obtain ⟨t, j, h⟩ := h
  exact ⟨_, mkd j, fun ω s σ k κ W Q hE q hk hx => h ω s σ _ κ W _ hE q (fun a r s' σ' e' q' hv => vw_view hv (by rw [hu]; exact hk _ _ _ e' q')) hx⟩
theorem tb_isN {ec : Expr} {n : Bool → Bool} (mkd : ∀ {t}, DE X c e t → DBt X c ec (bIsN n t)) (u : α → Bool) (hu : ∀ a, isNone (T a) = u a) (h : TR X c EX E E' T e f) : TB X c EX E E' ec (fun ω s k => f ω s fun a s' => k (n (u a)) s') := by
  obtain ⟨t, j, h⟩ := h
  exact ⟨_, mkd j, fun ω s σ k κ W Q hE q hk hx => h ω s σ _ κ W _ hE q (fun a r s' σ' e' q' hv => vw_view hv (by rw [hu]; exact hk _ _ _ e' q')) hx⟩
/-! slices -/
abbrev DOt := DK → DS → (Option Int → DS → Prop) → Prop
def TOi (X : Cx) (c : DC) (EX : DS → Prop) (E : ε → DS → Prop) (E' : ε' → DS → Prop) (e : Option Expr) (f : FE ε ε' (Option Int)) : Prop :=
  ∃ t : DOt, DO X c e t ∧ ∀ (ω : Type) (s : ε) (σ : DS) (k : Option Int → ε' → Pm ω) (κ : Ka ω) (W : DK) (Q : Option Int → DS → Prop), E s σ → Sat κ (f ω s k) →
    (∀ a s' σ', E' s' σ' → Sat κ (k a s') → Q a σ') → (∀ x σ', EX σ' → κ.X x → W x σ') → t W σ Q
theorem to_none : TOi X c EX E E none (fun _ s k => k none s) := ⟨_, do_none, fun ω s σ k κ W Q hE q hk hx => hk _ _ _ hE q⟩
theorem to_some {f : FE ε ε' Int} (h : TR X c EX E E' PyData.int e f) : TOi X c EX E E' (some e) (fun ω s k => f ω s fun a s' => k (some a) s') := by
  obtain ⟨t, j, h⟩ := h
  exact ⟨_, do_some j, fun ω s σ k κ W Q hE q hk hx => h ω s σ _ κ W _ hE q (fun a r s' σ' e' q' hv => vw_view hv (by show asInt (.int a) _; exact hk _ _ _ e' q')) hx⟩
def cut (xs : List α) (lo hi : Option Int) : List α := (xs.drop (HT.sIx xs.length 0 lo)).take (HT.sIx xs.length xs.length hi - HT.sIx xs.length 0 lo)
theorem cut_map (t : α → D) (xs : List α) (lo hi : Option Int) : DL.cutD (xs.map t) lo hi = (cut xs lo hi).map t := by
  unfold DL.cutD cut
  rw [List.length_map, List.map_take, List.map_drop]
/-- a slice: what it gives -/
def SlC (T : α → D) (T3 : γ → D) (g : (ω : Type) → α → Option Int → Option Int → (γ → Pm ω) → Pm ω) : Prop :=
  ∀ (ω : Type) (a : α) (lo hi : Option Int) (k : γ → Pm ω) (κ : Ka ω) (Q : D → Prop), Sat κ (g ω a lo hi k) → (∀ c, Sat κ (k c) → Q (T3 c)) → slD (T a) lo hi Q
theorem sl_list {t : α → D} : SlC (dL t) (dL t) (fun _ xs lo hi k => k (cut xs lo hi)) := fun ω a lo hi k κ Q q hk => by
  show Q (.list (DL.cutD _ _ _))
  rw [cut_map]; exact hk _ q
theorem sl_tupl {t : α → D} : SlC (dT t) (dT t) (fun _ xs lo hi k => k (cut xs lo hi)) := fun ω a lo hi k κ Q q hk => by
  show Q (.tuple (DL.cutD _ _ _))
  rw [cut_map]; exact hk _ q
theorem tm_sl {lo hi : Option Expr} {p2 : Pos} {g : (ω : Type) → α → Option Int → Option Int → (γ → Pm ω) → Pm ω} {fl : FE ε1 ε2 (Option Int)} {fh : FE ε2 ε3 (Option Int)} (hg : SlC T T3 g) (he : TM X c EX E E1 T e fa) (hl : TOi X c EX E1 E2 lo fl) (hh : TOi X c EX E2 E3 hi fh) :
    TM X c EX E E3 T3 (.Subscript e (.Slice lo hi none p2) pos) (fun ω s k => fa ω s fun a s1 => fl ω s1 fun l s2 => fh ω s2 fun h s3 => g ω a l h fun z => k z s3) := by
  obtain ⟨t, j, he⟩ := he
  obtain ⟨tl, jl, hl⟩ := hl
  obtain ⟨th, jh, hh⟩ := hh
  refine ⟨_, dev_sl (de_val j) jl jh, fun ω s σ k κ W Q hE q hk hx => he ω s σ _ κ W _ hE q (fun a s1 σ1 e1 q1 => hl ω s1 σ1 _ κ W _ e1 q1 (fun l s2 σ2 e2 q2 => hh ω s2 σ2 _ κ W _ e2 q2 (fun h s3 σ3 e3 q3 => ?_) hx) hx) hx⟩
  exact vw_view (d := T a) rfl (hg ω a l h _ κ _ q3 fun z q4 => hk _ _ _ e3 q4)
theorem tm_slO {lo hi : Option Expr} {p2 : Pos} {g : (ω : Type) → α → Option Int → Option Int → (γ → Pm ω) → Pm ω} {fl : FE ε ε2 (Option Int)} {fh : FE ε2 ε3 (Option Int)} (hg : SlC T T3 g) (he : DE X c e (dName j)) {get1 : ε → α} (o1 : SO E j TO get1) {get : ε3 → α} (o3 : SO E3 j TO get) (hv : ∀ a, (TO a).view = T a) (hl : TOi X c EX E E2 lo fl) (hh : TOi X c EX E2 E3 hi fh) :
    TM X c EX E E3 T3 (.Subscript e (.Slice lo hi none p2) pos) (fun ω s k => fl ω s fun l s2 => fh ω s2 fun h s3 => g ω (get s3) l h fun z => k z s3) := by
  obtain ⟨tl, jl, hl⟩ := hl
  obtain ⟨th, jh, hh⟩ := hh
  refine ⟨_, dev_sl he jl jh, fun ω s σ k κ W Q hE q hk hx => ?_⟩
  show dName j W σ _
  unfold dName
  rw [o1.g _ _ hE]
  refine hl ω s σ _ κ W _ hE q (fun l s2 σ2 e2 q2 => hh ω s2 σ2 _ κ W _ e2 q2 (fun h s3 σ3 e3 q3 => ?_) hx) hx
  refine vw_view (d := T (get s3)) ?_ (hg ω _ l h _ κ _ q3 fun z q4 => hk _ _ _ e3 q4)
  show (match σ3[j]? with
    | some (.val d) => some d
    | some (.ow m) => some m.view
    | _ => none) = _
  rw [o3.g _ _ e3, ← hv]
theorem tn_sl {lo hi : Option Expr} {p2 : Pos} {t : γ → D} {T : List γ → D} {fa : FE ε ε1 (List γ)} {fl : FE ε1 ε2 (Option Int)} {fh : FE ε2 ε3 (Option Int)} (hT : ∀ xs lo hi (Q : M → Prop), Q (.lst (DL.cutD (xs.map t) lo hi)) → slM (T xs) lo hi Q) (he : TM X c EX E E1 T e fa) (hl : TOi X c EX E1 E2 lo fl) (hh : TOi X c EX E2 E3 hi fh) :
    TN X c EX E E3 (mL t) (.Subscript e (.Slice lo hi none p2) pos) (fun ω s k => fa ω s fun a s1 => fl ω s1 fun l s2 => fh ω s2 fun h s3 => k (cut a l h) s3) := by
  obtain ⟨tt, j, he⟩ := he
  obtain ⟨tl, jl, hl⟩ := hl
  obtain ⟨th, jh, hh⟩ := hh
  refine ⟨_, dem_sl (de_val j) jl jh, fun ω s σ k κ W Q hE q hk hx => he ω s σ _ κ W _ hE q (fun a s1 σ1 e1 q1 => hl ω s1 σ1 _ κ W _ e1 q1 (fun l s2 σ2 e2 q2 => hh ω s2 σ2 _ κ W _ e2 q2 (fun h s3 σ3 e3 q3 => ?_) hx) hx) hx⟩
  refine vw_view (d := T a) rfl (hT a l h _ ?_)
  rw [cut_map]
  exact hk _ _ _ e3 q3
end
end TL
namespace TL
open PySem PySem.Spec PyProof.Rows L2 DL
/-! ### statements -/
abbrev FS (ε ε' ρ β γ : Type) := (ω : Type) → ε → (ε' → Pm ω) → (ρ → Pm ω) → (β → Pm ω) → (γ → Pm ω) → Pm ω
/-- where a block ends: its returns, breaks, continues -/
structure Nd (ρ β γ : Type) where
  rt : ρ → D → DS → Prop
  rm : ρ → M → DS → Prop
  ro : ρ → Nat → M → DS → Prop
  bk : β → DS → Prop
  ct : γ → DS → Prop
section
variable {X : Cx} {c : DC} {EX : DS → Prop} {ε ε1 ε2 ε3 ε4 ε' ε'' α β γ δ ρ β₁ γ₁ : Type} {E : ε → DS → Prop} {E1 : ε1 → DS → Prop} {E2 : ε2 → DS → Prop} {E3 : ε3 → DS → Prop} {E4 : ε4 → DS → Prop} {E' : ε' → DS → Prop} {EN : ε'' → DS → Prop}
variable {e a b b2 : Expr} {es rest : List Expr} {st : Stmt} {ss : List Stmt} {pos : Pos} {i j : Nat} {T : α → D} {T1 : α → D} {T2 : β → D} {T3 : γ → D} {TO : α → M} {f : FE ε ε' α} {N : Nd ρ β₁ γ₁}
structure Eds (EN : ε'' → DS → Prop) (N : Nd ρ β₁ γ₁) (EX : DS → Prop) {ω : Type} (κ : Ka ω) (kn : ε'' → Pm ω) (kr : ρ → Pm ω) (kb : β₁ → Pm ω) (kc : γ₁ → Pm ω) (Dn : DEnds) : Prop where
  nx : ∀ s' σ', EN s' σ' → Sat κ (kn s') → Dn.nx σ'
  rt : ∀ r d σ', N.rt r d σ' → Sat κ (kr r) → Dn.rt d σ'
  rm : ∀ r d σ', N.rm r d σ' → Sat κ (kr r) → Dn.rm d σ'
  ro : ∀ r i d σ', N.ro r i d σ' → Sat κ (kr r) → Dn.ro i d σ'
  bk : ∀ b σ', N.bk b σ' → Sat κ (kb b) → Dn.bk σ'
  ct : ∀ b σ', N.ct b σ' → Sat κ (kc b) → Dn.ct σ'
  xn : ∀ x σ', EX σ' → κ.X x → Dn.xn x σ'
def SRd (E : ε → DS → Prop) (EN : ε'' → DS → Prop) (N : Nd ρ β₁ γ₁) (EX : DS → Prop) (t : DTS) (f : FS ε ε'' ρ β₁ γ₁) : Prop :=
  ∀ (ω : Type) (s : ε) (σ : DS) (kn : ε'' → Pm ω) (kr : ρ → Pm ω) (kb : β₁ → Pm ω) (kc : γ₁ → Pm ω) (κ : Ka ω) (Dn : DEnds), E s σ → Sat κ (f ω s kn kr kb kc) → Eds EN N EX κ kn kr kb kc Dn → t Dn σ
def TS (X : Cx) (c : DC) (EX : DS → Prop) (E : ε → DS → Prop) (EN : ε'' → DS → Prop) (N : Nd ρ β₁ γ₁) (st : Stmt) (f : FS ε ε'' ρ β₁ γ₁) : Prop := ∃ t, DSt X c st t ∧ SRd E EN N EX t f
def TSs (X : Cx) (c : DC) (EX : DS → Prop) (E : ε → DS → Prop) (EN : ε'' → DS → Prop) (N : Nd ρ β₁ γ₁) (ss : List Stmt) (f : FS ε ε'' ρ β₁ γ₁) : Prop := ∃ t, DSs X c ss t ∧ SRd E EN N EX t f
theorem ts_nil : TSs X c EX E E N [] (fun _ s kn _ _ _ => kn s) := ⟨_, ss_nil, fun ω s σ kn kr kb kc κ Dn hE q d => d.nx _ _ hE q⟩
theorem ts_cons {f : FS ε ε1 ρ β₁ γ₁} {g : FS ε1 ε'' ρ β₁ γ₁} (h : TS X c EX E E1 N st f) (h2 : TSs X c EX E1 EN N ss g) : TSs X c EX E EN N (st :: ss) (fun ω s kn kr kb kc => f ω s (fun s1 => g ω s1 kn kr kb kc) kr kb kc) := by
  obtain ⟨t, j, h⟩ := h
  obtain ⟨u, j2, h2⟩ := h2
  exact ⟨_, ss_cons j j2, fun ω s σ kn kr kb kc κ Dn hE q d => h ω s σ _ kr kb kc κ { Dn with nx := u Dn } hE q ⟨fun s' σ' e' q' => h2 ω s' σ' kn kr kb kc κ Dn e' q' d, d.rt, d.rm, d.ro, d.bk, d.ct, d.xn⟩⟩
theorem ts_one {f : FS ε ε'' ρ β₁ γ₁} (h : TS X c EX E EN N st f) : TSs X c EX E EN N [st] f := let ⟨t, j, h⟩ := h; ⟨t, ss_one j, h⟩
theorem ts_expr {f : FE ε ε'' α} (h : TM X c EX E EN T e f) (hs : swapsWith e none pos.line X.env = pure false := by rfl) : TS X c EX E EN N (.Expr e pos) (fun ω s kn _ _ _ => f ω s fun _ s' => kn s') := by
  obtain ⟨t, j, h⟩ := h
  exact ⟨_, st_expr j hs, fun ω s σ kn kr kb kc κ Dn hE q d => h ω s σ _ κ Dn.xn _ hE q (fun a s' σ' e' q' => d.nx _ _ e' q') d.xn⟩
theorem ts_ret {f : FE ε ε' α} (w : α → ε' → ρ) (h : TM X c EX E E' T e f) (hr : ∀ a s' σ', E' s' σ' → N.rt (w a s') (T a) σ') : TS X c EX E EN N (.Return (some e) pos) (fun ω s _ kr _ _ => f ω s fun a s' => kr (w a s')) := by
  obtain ⟨t, j, h⟩ := h
  exact ⟨_, st_ret j, fun ω s σ kn kr kb kc κ Dn hE q d => h ω s σ _ κ Dn.xn _ hE q (fun a s' σ' e' q' => d.rt _ _ _ (hr a s' σ' e') q') d.xn⟩
theorem ts_retN (w : ε → ρ) (hr : ∀ s σ, E s σ → N.rt (w s) .none σ) : TS X c EX E EN N (.Return none pos) (fun ω s _ kr _ _ => kr (w s)) :=
  ⟨_, st_retN, fun ω s σ kn kr kb kc κ Dn hE q d => d.rt _ _ _ (hr s σ hE) q⟩
theorem ts_retM {f : FE ε ε' α} (w : α → ε' → ρ) (h : TN X c EX E E' TO e f) (hr : ∀ a s' σ', E' s' σ' → N.rm (w a s') (TO a) σ') : TS X c EX E EN N (.Return (some e) pos) (fun ω s _ kr _ _ => f ω s fun a s' => kr (w a s')) := by
  obtain ⟨t, j, h⟩ := h
  exact ⟨_, st_retM j, fun ω s σ kn kr kb kc κ Dn hE q d => h ω s σ _ κ Dn.xn _ hE q (fun a s' σ' e' q' => d.rm _ _ _ (hr a s' σ' e') q') d.xn⟩
theorem ts_retO (w : α → ε → ρ) (h : DE X c e (dName j)) {get : ε → α} (g : SO E j TO get) (hr : ∀ s σ, E s σ → N.ro (w (get s) s) j (TO (get s)) σ) : TS X c EX E EN N (.Return (some e) pos) (fun ω s _ kr _ _ => kr (w (get s) s)) :=
  ⟨_, st_retO j h, fun ω s σ kn kr kb kc κ Dn hE q d => by
    unfold sRetO
    rw [g.g s σ hE]
    exact d.ro _ _ _ _ (hr s σ hE) q⟩
theorem ts_pass : TS X c EX E E N (.Pass pos) (fun _ s kn _ _ _ => kn s) := ⟨_, st_pass, fun ω s σ kn kr kb kc κ Dn hE q d => d.nx _ _ hE q⟩
theorem ts_break (w : ε → β₁) (hw : ∀ s σ, E s σ → N.bk (w s) σ) : TS X c EX E EN N (.Break pos) (fun _ s _ _ kb _ => kb (w s)) := ⟨_, st_break, fun ω s σ kn kr kb kc κ Dn hE q d => d.bk _ _ (hw s σ hE) q⟩
theorem ts_cont (w : ε → γ₁) (hw : ∀ s σ, E s σ → N.ct (w s) σ) : TS X c EX E EN N (.Continue pos) (fun _ s _ _ _ kc => kc (w s)) := ⟨_, st_cont, fun ω s σ kn kr kb kc κ Dn hE q d => d.ct _ _ (hw s σ hE) q⟩
/-- never reached -/
theorem ts_never : TS X c EX E EN N st (fun _ _ _ _ _ _ => .bad) := ⟨_, st_never, fun ω s σ kn kr kb kc κ Dn hE q d => q.elim⟩
theorem ts_wk {f : FS ε ε1 ρ β₁ γ₁} {w : ε1 → ε''} (h : TSs X c EX E E1 N ss f) (hw : WK E1 EN w) : TSs X c EX E EN N ss (fun ω s kn kr kb kc => f ω s (fun s' => kn (w s')) kr kb kc) := by
  obtain ⟨t, j, h⟩ := h
  exact ⟨_, j, fun ω s σ kn kr kb kc κ Dn hE q d => h ω s σ _ kr kb kc κ Dn hE q ⟨fun s' σ' e' q' => d.nx _ _ (hw.w _ _ e') q', d.rt, d.rm, d.ro, d.bk, d.ct, d.xn⟩⟩
theorem ts_wk0 {f : FS ε1 ε'' ρ β₁ γ₁} {w : ε → ε1} (hw : WK E E1 w) (h : TSs X c EX E1 EN N ss f) : TSs X c EX E EN N ss (fun ω s kn kr kb kc => f ω (w s) kn kr kb kc) := by
  obtain ⟨t, j, h⟩ := h
  exact ⟨_, j, fun ω s σ kn kr kb kc κ Dn hE q d => h ω (w s) σ _ kr kb kc κ Dn (hw.w _ _ hE) q d⟩
theorem ts_if {cnd : Expr} {sa sb : List Stmt} {fc : FE ε ε1 Bool} {f g : FS ε1 ε'' ρ β₁ γ₁} (hc : TB X c EX E E1 cnd fc) (ha : TSs X c EX E1 EN N sa f) (hb : TSs X c EX E1 EN N sb g) : TS X c EX E EN N (.If cnd sa sb pos) (fun ω s kn kr kb kc => fc ω s fun z s1 => if z = true then f ω s1 kn kr kb kc else g ω s1 kn kr kb kc) := by
  obtain ⟨tc, jc, hc⟩ := hc
  obtain ⟨ta, ja, ha⟩ := ha
  obtain ⟨tb, jb, hb⟩ := hb
  refine ⟨_, st_if jc ja jb, fun ω s σ kn kr kb kc κ Dn hE q d => hc ω s σ _ κ Dn.xn _ hE q (fun z s1 σ1 e1 q1 => ?_) d.xn⟩
  show if z = true then _ else _
  cases z with
  | true => exact ha ω s1 σ1 kn kr kb kc κ Dn e1 q1 d
  | false => exact hb ω s1 σ1 kn kr kb kc κ Dn e1 q1 d
def nb {α ω : Type} : α → Pm ω := fun _ => .bad
/-- a statement whose ways meet again -/
theorem ts_join {f : FS ε ε'' ρ β₁ γ₁} (h : TS X c EX E EN N st f) : TS X c EX E EN N st (fun ω s kn _ _ _ => bd (f ε'' s .ok nb nb nb) kn) := by
  obtain ⟨t, j, h⟩ := h
  exact ⟨_, j, fun ω s σ kn kr kb kc κ Dn hE q d => h _ s σ .ok nb nb nb _ Dn hE (sat_bd q) ⟨fun s' σ' e' q' => d.nx _ _ e' q', fun _ _ _ _ q' => q'.elim, fun _ _ _ _ q' => q'.elim, fun _ _ _ _ _ q' => q'.elim, fun _ _ _ q' => q'.elim, fun _ _ _ q' => q'.elim, d.xn⟩⟩
/-- .. or end the def -/
inductive Fl (ε ρ : Type) where
  | nx (s : ε)
  | rt (r : ρ)
  | bk (s : ε)
def flm {ω : Type} (fl : Fl ε ρ) (kn : ε → Pm ω) (kr : ρ → Pm ω) : Pm ω := match fl with
  | .nx s => kn s
  | .rt r => kr r
  | .bk s => kn s
theorem ts_joinR {f : FS ε ε'' ρ β₁ γ₁} (h : TS X c EX E EN N st f) : TS X c EX E EN N st (fun ω s kn kr _ _ => bd (f (Fl ε'' ρ) s (fun s' => .ok (.nx s')) (fun r => .ok (.rt r)) nb nb) fun fl => flm fl kn kr) := by
  obtain ⟨t, j, h⟩ := h
  exact ⟨_, j, fun ω s σ kn kr kb kc κ Dn hE q d => h _ s σ _ _ nb nb _ Dn hE (sat_bd q) ⟨fun s' σ' e' q' => d.nx _ _ e' q', fun r dd σ' e' q' => d.rt _ _ _ e' q', fun r dd σ' e' q' => d.rm _ _ _ e' q', fun r i dd σ' e' q' => d.ro _ _ _ _ e' q', fun _ _ _ q' => q'.elim, fun _ _ _ q' => q'.elim, d.xn⟩⟩

/-! assignments -/
/-- what a target does with a value -/
def TG (X : Cx) (c : DC) (E : ε → DS → Prop) (E' : ε' → DS → Prop) (T : α → D) (tg : Expr) (is : List Nat) (put : α → ε → ε') : Prop :=
  ∃ g, DG X c tg is g ∧ ∀ a s σ (Q : DS → Prop), E s σ → (∀ σ', E' (put a s) σ' → Q σ') → g (T a) σ Q
def TGs (X : Cx) (c : DC) (E : ε → DS → Prop) (E' : ε' → DS → Prop) (T : α → List D) (tgs : List Expr) (is : List Nat) (put : α → ε → ε') : Prop :=
  ∃ g, DGs X c tgs is g ∧ ∀ a s σ (Q : DS → Prop), E s σ → (∀ σ', E' (put a s) σ' → Q σ') → g (T a) σ Q
theorem tg_name {put : α → ε → ε'} (h : DG X c e [j] (gNm j)) (hs : SS E E' j (fun a => .val (T a)) put) : TG X c E E' T e [j] put := ⟨_, h, fun a s σ Q hE q => q _ (hs.p _ _ _ hE)⟩
theorem tgs_nil : TGs X c E E (fun (_ : Unit) => []) [] [] (fun _ s => s) := ⟨_, dgs_nil, fun a s σ Q hE q => q _ hE⟩
theorem tgs_cons {Ts : β → List D} {is js : List Nat} {p : α → ε → ε1} {q : β → ε1 → ε2} (h : TG X c E E1 T e is p) (hs : TGs X c E1 E2 Ts es js q) (hst : (assignEach (e :: es) X.env).map (·.2) = assign e X.env :: (assignEach es X.env).map (·.2) := by rfl) :
    TGs X c E E2 (fun (z : α × β) => T z.1 :: Ts z.2) (e :: es) (is ++ js) (fun z s => q z.2 (p z.1 s)) := by
  obtain ⟨g, j, h⟩ := h
  obtain ⟨gs, js, hs⟩ := hs
  exact ⟨_, dgs_cons j js hst, fun z s σ Q hE k => h z.1 s σ _ hE fun σ1 e1 => hs z.2 _ σ1 _ e1 k⟩
theorem tg_tup {T : β → D} {Ts : α → List D} {is : List Nat} {put : α → ε → ε'} {k m : Nat} {p : Pos} (dec : β → α) (hc : X.calm = true) (h : TGs X c E E' Ts es is put) (hT : ∀ b, T b = .tuple (Ts (dec b))) (hl : ∀ a, (Ts a).length = m) (hn : (assignEach es X.env).length = m := by rfl) (hst : (assignEach es X.env).findIdx? (·.1) = none := by rfl) :
    TG X c E E' T (.Tuple es k p) is (fun b s => put (dec b) s) := by
  obtain ⟨g, j, h⟩ := h
  exact ⟨_, dg_tup hc j hn hst, fun b s σ Q hE q => by rw [hT]; exact ⟨hl _, h _ s σ Q hE q⟩⟩
theorem ts_asg {f : FE ε ε1 α} {put : α → ε1 → ε''} {is : List Nat} {tg : Expr} (h : TM X c EX E E1 T e f) (hg : TG X c E1 EN T tg is put) (hs : swapsWithSole [tg] e pos.line X.env = pure false := by rfl) (hw : swappedStores [tg] e X.env = pure none := by rfl) (h1 : (assignEach [tg] X.env).map (·.2) = [assign tg X.env] := by rfl) :
    TS X c EX E EN N (.Assign [tg] e pos) (fun ω s kn _ _ _ => f ω s fun a s1 => kn (put a s1)) := by
  obtain ⟨t, j, h⟩ := h
  obtain ⟨g, jg, hg⟩ := hg
  exact ⟨_, st_asg j jg hs hw h1, fun ω s σ kn kr kb kc κ Dn hE q d => h ω s σ _ κ Dn.xn _ hE q (fun a s' σ' e' q' => hg a s' σ' _ e' fun σ2 e2 => d.nx _ _ e2 q') d.xn⟩
theorem ts_set {f : FE ε ε1 α} {put : α → ε1 → ε''} (mk : ∀ {t}, DEv X c e t → DSt X c st (sSet j t)) (h : TM X c EX E E1 T e f) (hs : SS E1 EN j (fun a => .val (T a)) put) : TS X c EX E EN N st (fun ω s kn _ _ _ => f ω s fun a s1 => kn (put a s1)) := by
  obtain ⟨t, jt, h⟩ := h
  exact ⟨_, mk jt, fun ω s σ kn kr kb kc κ Dn hE q d => h ω s σ _ κ Dn.xn _ hE q (fun a s' σ' e' q' => d.nx _ _ (hs.p _ _ _ e') q') d.xn⟩
theorem ts_setM {f : FE ε ε1 α} {put : α → ε1 → ε''} (mk : ∀ {t}, DEm X c e t → DSt X c st (sSetM j t)) (h : TN X c EX E E1 TO e f) (hs : SS E1 EN j (fun a => .ow (TO a)) put) : TS X c EX E EN N st (fun ω s kn _ _ _ => f ω s fun a s1 => kn (put a s1)) := by
  obtain ⟨t, jt, h⟩ := h
  exact ⟨_, mk jt, fun ω s σ kn kr kb kc κ Dn hE q d => h ω s σ _ κ Dn.xn _ hE q (fun a s' σ' e' q' => d.nx _ _ (hs.p _ _ _ e') q') d.xn⟩
theorem ts_par {f : FE ε ε1 α} {g : FE ε1 ε2 β} {p : α → ε2 → ε3} {q : β → ε3 → ε''} (mk : ∀ {t u}, DEv X c a t → DEv X c b u → DSt X c st (sPar i j t u)) (ha : TM X c EX E E1 T1 a f) (hb : TM X c EX E1 E2 T2 b g) (h1 : SS E2 E3 i (fun a => .val (T1 a)) p) (h2 : SS E3 EN j (fun a => .val (T2 a)) q) :
    TS X c EX E EN N st (fun ω s kn _ _ _ => f ω s fun x s1 => g ω s1 fun y s2 => kn (q y (p x s2))) := by
  obtain ⟨t, jt, ha⟩ := ha
  obtain ⟨u, ju, hb⟩ := hb
  exact ⟨_, mk jt ju, fun ω s σ kn kr kb kc κ Dn hE q d => ha ω s σ _ κ Dn.xn _ hE q (fun a s' σ' e' q' => hb ω s' σ' _ κ Dn.xn _ e' q' (fun b s2 σ2 e2 q2 => d.nx _ _ (h2.p _ _ _ (h1.p _ _ _ e2)) q2) d.xn) d.xn⟩
/-! a list in a slot, changed -/
theorem at_so {get : ε → α} (o : SO E j TO get) {s : ε} {σ : DS} (hE : E s σ) {k : M → Prop} (h : k (TO (get s))) : atSl σ j k := by
  unfold atSl
  rw [o.g s σ hE]
  exact h
def SetC (TO : α → M) (T2 : β → D) (T3 : γ → D) (g : (ω : Type) → α → β → γ → (α → Pm ω) → Pm ω) : Prop :=
  ∀ (ω : Type) (a : α) (b : β) (d : γ) (k : α → Pm ω) (κ : Ka ω) (Q : M → Prop), Sat κ (g ω a b d k) → (∀ c, Sat κ (k c) → Q (TO c)) → setM (TO a) (T2 b) (T3 d) Q
theorem ts_store {fi : FE ε1 ε2 β} {fe : FE ε ε1 γ} {g : (ω : Type) → α → β → γ → (α → Pm ω) → Pm ω} {get1 : ε1 → α} {get : ε2 → α} {put : α → ε2 → ε''} (mk : ∀ {t u}, DE X c b t → DEv X c e u → DSt X c st (sStore j t u)) (hg : SetC TO T2 T3 g) (he : TM X c EX E E1 T3 e fe) (hi : TR X c EX E1 E2 T2 b fi) (o1 : SO E1 j TO get1) (o : SO E2 j TO get) (hs : SS E2 EN j (fun a => .ow (TO a)) put) :
    TS X c EX E EN N st (fun ω s kn _ _ _ => fe ω s fun d s1 => fi ω s1 fun y s2 => g ω (get s2) y d fun z => kn (put z s2)) := by
  obtain ⟨u, ju, he⟩ := he
  obtain ⟨t, jt, hi⟩ := hi
  refine ⟨_, mk jt ju, fun ω s σ kn kr kb kc κ Dn hE q d => he ω s σ _ κ Dn.xn _ hE q (fun v s1 σ1 e1 q1 => ?_) d.xn⟩
  refine at_so o1 e1 (hi ω s1 σ1 _ κ Dn.xn _ e1 q1 (fun y r s2 σ2 e2 q2 hv => vw_view hv (at_so o e2 ?_)) d.xn)
  exact hg ω _ y v _ κ _ q2 fun z q3 => d.nx _ _ (hs.p _ _ _ e2) q3
/-- a written place -/
theorem ts_storec {fe : FE ε ε1 γ} {n : Int} (up : α → γ → α) {get1 : ε1 → α} {put : α → ε1 → ε''} (mk : ∀ {t u}, DE X c b t → DEv X c e u → DSt X c st (sStore j t u)) (hb : DEv X c b (dC (.int n))) (hu : ∀ a d (Q : M → Prop), Q (TO (up a d)) → setM (TO a) (.int n) (T3 d) Q) (he : TM X c EX E E1 T3 e fe) (o : SO E1 j TO get1) (hs : SS E1 EN j (fun a => .ow (TO a)) put) :
    TS X c EX E EN N st (fun ω s kn _ _ _ => fe ω s fun d s1 => kn (put (up (get1 s1) d) s1)) := by
  obtain ⟨u, ju, he⟩ := he
  refine ⟨_, mk (de_val hb) ju, fun ω s σ kn kr kb kc κ Dn hE q d => he ω s σ _ κ Dn.xn _ hE q (fun v s1 σ1 e1 q1 => ?_) d.xn⟩
  refine at_so o e1 ?_
  dsimp only [dVal, dC]
  refine vw_view rfl (at_so o e1 (hu _ _ _ ?_))
  exact d.nx _ _ (hs.p _ _ _ e1) q1
def apP {α ω : Type} (xs : List α) (k : Unit → Pm ω) : Pm ω := if xs.length < 16777216 then k () else .bad
theorem ts_app {t : α → D} {fe : FE ε ε1 α} {get0 : ε → List α} {get1 : ε1 → List α} {put : List α → ε1 → ε''} (mk : ∀ {u}, DEv X c e u → DSt X c st (sApp j u)) (he : TM X c EX E E1 t e fe) (o0 : SO E j (mL t) get0) (o : SO E1 j (mL t) get1) (hs : SS E1 EN j (fun a => .ow (mL t a)) put) :
    TS X c EX E EN N st (fun ω s kn _ _ _ => fe ω s fun d s1 => apP (get1 s1) fun _ => kn (put (get1 s1 ++ [d]) s1)) := by
  obtain ⟨u, ju, he⟩ := he
  refine ⟨_, mk ju, fun ω s σ kn kr kb kc κ Dn hE q d => at_so o0 hE ⟨trivial, he ω s σ _ κ Dn.xn _ hE q (fun v s1 σ1 e1 q1 => at_so o e1 ?_) d.xn⟩⟩
  unfold apP at q1
  split at q1
  · next hl =>
    refine ⟨by rw [List.length_map]; exact hl, ?_⟩
    have := hs.p _ _ (get1 s1 ++ [v]) e1
    have h2 : mL t (get1 s1 ++ [v]) = M.lst ((get1 s1).map t ++ [t v]) := by show M.lst _ = _; rw [List.map_append]; rfl
    rw [h2] at this
    exact d.nx _ _ this q1
  · exact q1.elim
end
end TL
namespace TL
open PySem PySem.Spec PyProof.Rows L2 DL
/-! ### loops -/
def forN {α ε : Type} : List α → ε → (α → ε → Pm ε) → Pm ε
  | [], s, _ => .ok s
  | x :: xs, s, b => bd (b x s) fun s' => forN xs s' b
def forF {α ε ρ : Type} : List α → ε → (α → ε → Pm (Fl ε ρ)) → Pm (Fl ε ρ)
  | [], s, _ => .ok (.nx s)
  | x :: xs, s, b => bd (b x s) fun fl => match fl with
    | .nx s' => forF xs s' b
    | .rt r => .ok (.rt r)
    | .bk s' => .ok (.nx s')
def whN {ε δ : Type} (st : ε → Pm (Fl ε δ)) : Nat → ε → Pm δ
  | 0, _ => .bad
  | n + 1, s => bd (st s) fun fl => match fl with
    | .nx s' => whN st n s'
    | .rt d => .ok d
    | .bk _ => .bad
open Classical in
noncomputable def whP {ε δ : Type} (st : ε → Pm (Fl ε δ)) (s : ε) : Pm δ := if h : ∃ n, whN st n s ≠ .bad then whN st (Classical.choose h) s else .bad
/-- what raises is not told here -/
def bx {α β : Type} (m : Pm α) (k : α → Pm β) : Pm β := match m with
  | .ok a => k a
  | _ => .bad
theorem sat_bx {α β : Type} {κ : Ka β} {m : Pm α} {k : α → Pm β} (h : Sat κ (bx m k)) : Sat ⟨fun a => Sat κ (k a), fun _ => False⟩ m := by
  cases m <;> exact h
def mapP {α β : Type} : List α → (α → Pm β) → Pm (List β)
  | [], _ => .ok []
  | x :: xs, f => bx (f x) fun y => bx (mapP xs f) fun ys => .ok (y :: ys)
def filP {α β : Type} : List α → (α → Pm (Option β)) → Pm (List β)
  | [], _ => .ok []
  | x :: xs, f => bx (f x) fun y => bx (filP xs f) fun ys => .ok (match y with
    | some z => z :: ys
    | none => ys)
def mapS {α β ε : Type} : List α → ε → (α → ε → Pm (β × ε)) → Pm (List β × ε)
  | [], s, _ => .ok ([], s)
  | x :: xs, s, f => bx (f x s) fun p => bx (mapS xs p.2 f) fun q => .ok (p.1 :: q.1, q.2)
def lnP {α ω : Type} (xs : List α) (k : Unit → Pm ω) : Pm ω := if xs.length ≤ 16777216 then k () else .bad
def rg (lo hi : Int) : List Int := (List.range (hi - lo).toNat).map fun (i : Nat) => lo + (i : Int)
def rgP {ω : Type} (lo hi : Int) (k : List Int → Pm ω) : Pm ω := if -(2 ^ 62) ≤ lo ∧ lo < 2 ^ 62 ∧ -(2 ^ 62) ≤ hi ∧ hi < 2 ^ 62 then k (rg lo hi) else .bad
section
variable {X : Cx} {c : DC} {EX : DS → Prop} {ε ε1 ε2 ε3 ε4 ε' ε'' α β γ δ ρ β₁ γ₁ : Type} {E : ε → DS → Prop} {E1 : ε1 → DS → Prop} {E2 : ε2 → DS → Prop} {E3 : ε3 → DS → Prop} {E4 : ε4 → DS → Prop} {E' : ε' → DS → Prop} {EN : ε'' → DS → Prop}
variable {e a b b2 iter tg : Expr} {es rest ifs : List Expr} {body ss : List Stmt} {st : Stmt} {pos : Pos} {i j : Nat} {T : α → D} {T1 : α → D} {T2 : β → D} {T3 : γ → D} {TO : α → M} {f : FE ε ε' α} {N : Nd ρ β₁ γ₁}
theorem whN_mono (st : ε → Pm (Fl ε δ)) : ∀ (n m : Nat) (s : ε), whN st n s ≠ .bad → n ≤ m → whN st m s = whN st n s
  | 0, _, _, h, _ => absurd rfl h
  | n + 1, 0, _, _, h => by omega
  | n + 1, m + 1, s, h, hm => by
    unfold whN at h ⊢
    cases e : st s with
    | bad => rfl
    | ex x => rfl
    | ok fl =>
      rw [e] at h
      cases fl with
      | nx s' => exact whN_mono st n m s' h (by omega)
      | rt d => rfl
      | bk d => rfl
theorem whP_of {st : ε → Pm (Fl ε δ)} {s : ε} {r : Pm δ} (n : Nat) (h : whN st n s = r) (hr : r ≠ .bad) : whP st s = r := by
  have hx : ∃ n, whN st n s ≠ .bad := ⟨n, by rw [h]; exact hr⟩
  unfold whP
  rw [dif_pos hx]
  have h2 := Classical.choose_spec hx
  rcases Nat.le_total (Classical.choose hx) n with l | l
  · rw [← whN_mono st _ _ s h2 l, h]
  · rw [whN_mono st _ _ s (by rw [h]; exact hr) l, h]
theorem whP_ex {st : ε → Pm (Fl ε δ)} {s : ε} {κ : Ka δ} (h : Sat κ (whP st s)) : ∃ n, Sat κ (whN st n s) := by
  unfold whP at h
  split at h
  · exact ⟨_, h⟩
  · exact h.elim

/-! what is walked -/
def TI (X : Cx) (c : DC) (EX : DS → Prop) (E : ε → DS → Prop) (E' : ε' → DS → Prop) (T : α → D) (tg iter : Expr) (f : FE ε ε' (List α)) : Prop :=
  ∃ t : DA, DI X c tg iter t ∧ ∀ (ω : Type) (s : ε) (σ : DS) (k : List α → ε' → Pm ω) (κ : Ka ω) (W : DK) (Q : List D → DS → Prop), E s σ → Sat κ (f ω s k) →
    (∀ a s' σ', E' s' σ' → Sat κ (k a s') → Q (a.map T) σ') → (∀ x σ', EX σ' → κ.X x → W x σ') → t W σ Q
theorem ti_seq {T' : β → D} {f : FE ε ε' β} (L : β → List α) (h : TM X c EX E E' T' e f) (hi : ∀ b (Q : List D → Prop), Q ((L b).map T) → items (T' b) Q) : TI X c EX E E' T tg e (fun ω s k => f ω s fun b s' => k (L b) s') := by
  obtain ⟨t, j, h⟩ := h
  exact ⟨_, di_seq j, fun ω s σ k κ W Q hE q hk hx => h ω s σ _ κ W _ hE q (fun b s' σ' e' q' => hi b _ (hk _ _ _ e' q')) hx⟩
theorem rg_map (lo hi : Int) : rng lo (hi - lo).toNat = (rg lo hi).map PyData.int := by
  unfold rng rg
  rw [List.map_map]
  rfl
theorem ti_rng1 {f : FE ε ε' Int} {ec : Expr} (mk : ∀ {t}, DRs X c [e] t → DI X c tg ec (iRg1 t)) (h : TR X c EX E E' PyData.int e f) (hst : starEach [e] X.env = (false, eval e X.env) :: starEach [] X.env := by rfl) : TI X c EX E E' PyData.int tg ec (fun ω s k => f ω s fun a s' => rgP 0 a fun xs => k xs s') := by
  obtain ⟨t, j, h⟩ := h
  refine ⟨_, mk (dr_cons j dr_nil hst), fun ω s σ k κ W Q hE q hk hx => h ω s σ _ κ W _ hE q (fun a r s' σ' e' q' hv => ?_) hx⟩
  refine vw_view hv ?_
  show (-(2 ^ 62) ≤ a ∧ a < 2 ^ 62) ∧ Q (rng 0 a.toNat) σ'
  unfold rgP at q'
  split at q'
  · next hb =>
    refine ⟨⟨hb.2.2.1, hb.2.2.2⟩, ?_⟩
    have := rg_map 0 a
    rw [Int.sub_zero] at this
    rw [this]
    exact hk _ _ _ e' q'
  · exact q'.elim
theorem vws2 {σ : DS} {r1 r2 : R} {x y : D} {k : List D → Prop} (h1 : view σ r1 = some x) (h2 : view σ r2 = some y) (h : k [x, y]) : vws σ [r1, r2] k := vw_view h1 (vw_view h2 h)
theorem ti_rng2 {f : FE ε ε1 Int} {g : FE ε1 ε2 Int} {ec : Expr} (mk : ∀ {t}, DRs X c [a, b] t → DI X c tg ec (iRg2 t)) (ha : TM X c EX E E1 PyData.int a f) (hb : TR X c EX E1 E2 PyData.int b g) (hst : starEach [a, b] X.env = (false, eval a X.env) :: starEach [b] X.env := by rfl) (hst2 : starEach [b] X.env = (false, eval b X.env) :: starEach [] X.env := by rfl) :
    TI X c EX E E2 PyData.int tg ec (fun ω s k => f ω s fun x s1 => g ω s1 fun y s' => rgP x y fun xs => k xs s') := by
  obtain ⟨t, jt, ha⟩ := ha
  obtain ⟨u, ju, hb⟩ := hb
  refine ⟨_, mk (dr_cons (de_val jt) (dr_cons ju dr_nil hst2) hst), fun ω s σ k κ W Q hE q hk hx => ha ω s σ _ κ W _ hE q (fun x s1 σ1 e1 q1 => hb ω s1 σ1 _ κ W _ e1 q1 (fun y r s2 σ2 e2 q2 hv => ?_) hx) hx⟩
  show vws σ2 [.d (.int x), r] (fun ds => match ds with
              | [PyData.int i, PyData.int j] => (-2 ^ 62 ≤ i ∧ i < 2 ^ 62 ∧ -2 ^ 62 ≤ j ∧ j < 2 ^ 62) ∧ Q (rng i (j - i).toNat) σ2
              | _ => False)
  refine vws2 (r1 := .d (.int x)) rfl hv ?_
  show (-(2 ^ 62) ≤ x ∧ x < 2 ^ 62 ∧ -(2 ^ 62) ≤ y ∧ y < 2 ^ 62) ∧ Q (rng x (y - x).toNat) σ2
  unfold rgP at q2
  split at q2
  · next hb =>
    refine ⟨hb, ?_⟩
    rw [rg_map]
    exact hk _ _ _ e2 q2
  · exact q2.elim

/-! for -/
abbrev NdL (N : Nd ρ β₁ γ₁) (E : ε → DS → Prop) : Nd ρ ε ε := ⟨N.rt, N.rm, N.ro, E, E⟩
theorem ts_forF {fi : FE ε ε1 (List α)} {w : ε1 → ε2} {put : α → ε2 → ε3} {is : List Nat} {fb : FS ε3 ε2 ρ ε2 ε2} (hc : X.calm = true) (hi : TI X c EX E E1 T tg iter fi) (hw : WK E1 E2 w) (hg : TG X c E2 E3 T tg is put) (hb : TSs X c EX E3 E2 (NdL N E2) body fb) (hp : PassesOwn (model X.prog X.w) X.A X.env X.xe := by exact passes_of rfl)
    (hs : ∀ x, foldedSetIterable iter X.env x = pure x := by intro _; rfl) : TS X c EX E E2 N (.For tg iter body [] pos) (fun ω s kn kr _ _ => fi ω s fun xs s1 => bd (forF xs (w s1) fun x s2 => fb (Fl ε2 ρ) (put x s2) (fun s3 => .ok (.nx s3)) (fun r => .ok (.rt r)) (fun s3 => .ok (.bk s3)) (fun s3 => .ok (.nx s3))) fun fl => flm fl kn kr) := by
  obtain ⟨ti, ji, hi⟩ := hi
  obtain ⟨g, jg, hg⟩ := hg
  obtain ⟨tb, jb, hb⟩ := hb
  refine ⟨_, st_for hc ji jg jb hp hs, fun ω s σ kn kr kb kc κ Dn hE q d => hi ω s σ _ κ Dn.xn _ hE q (fun xs s1 σ1 e1 q1 => ?_) d.xn⟩
  have q2 := sat_bd q1
  have e2 := hw.w _ _ e1
  generalize w s1 = s2 at q2 e2
  clear q1 e1 q hE
  induction xs generalizing s2 σ1 with
  | nil => exact d.nx _ _ e2 q2
  | cons x xs ih =>
    refine hg x s2 σ1 _ e2 fun σ3 e3 => ?_
    unfold forF at q2
    refine hb _ _ σ3 _ _ _ _ _ { Dn with nx := forD g tb Dn (xs.map T), ct := forD g tb Dn (xs.map T), bk := Dn.nx } e3 (sat_bd q2) ⟨fun s' σ' e' q' => ih σ' s' q' e', fun r dd σ' e' q' => d.rt _ _ _ e' q', fun r dd σ' e' q' => d.rm _ _ _ e' q', fun r i dd σ' e' q' => d.ro _ _ _ _ e' q', fun s' σ' e' q' => d.nx _ _ e' q', fun s' σ' e' q' => ih σ' s' q' e', d.xn⟩
/-- a loop that is not left early -/
theorem ts_forN {fi : FE ε ε1 (List α)} {w : ε1 → ε2} {put : α → ε2 → ε3} {is : List Nat} {fb : FS ε3 ε2 ρ ε2 ε2} (hc : X.calm = true) (hi : TI X c EX E E1 T tg iter fi) (hw : WK E1 E2 w) (hg : TG X c E2 E3 T tg is put) (hb : TSs X c EX E3 E2 (NdL N E2) body fb) (hp : PassesOwn (model X.prog X.w) X.A X.env X.xe := by exact passes_of rfl)
    (hs : ∀ x, foldedSetIterable iter X.env x = pure x := by intro _; rfl) : TS X c EX E E2 N (.For tg iter body [] pos) (fun ω s kn kr _ _ => fi ω s fun xs s1 => bd (forN xs (w s1) fun x s2 => fb ε2 (put x s2) .ok nb nb .ok) kn) := by
  obtain ⟨ti, ji, hi⟩ := hi
  obtain ⟨g, jg, hg⟩ := hg
  obtain ⟨tb, jb, hb⟩ := hb
  refine ⟨_, st_for hc ji jg jb hp hs, fun ω s σ kn kr kb kc κ Dn hE q d => hi ω s σ _ κ Dn.xn _ hE q (fun xs s1 σ1 e1 q1 => ?_) d.xn⟩
  have q2 := sat_bd q1
  have e2 := hw.w _ _ e1
  generalize w s1 = s2 at q2 e2
  clear q1 e1 q hE
  induction xs generalizing s2 σ1 with
  | nil => exact d.nx _ _ e2 q2
  | cons x xs ih =>
    refine hg x s2 σ1 _ e2 fun σ3 e3 => ?_
    unfold forN at q2
    exact hb _ _ σ3 _ _ _ _ _ { Dn with nx := forD g tb Dn (xs.map T), ct := forD g tb Dn (xs.map T), bk := Dn.nx } e3 (sat_bd q2) ⟨fun s' σ' e' q' => ih σ' s' q' e', fun r dd σ' e' q' => q'.elim, fun r dd σ' e' q' => q'.elim, fun r i dd σ' e' q' => q'.elim, fun s' σ' e' q' => q'.elim, fun s' σ' e' q' => ih σ' s' q' e', d.xn⟩
/-! while -/
theorem ts_while {cnd : Expr} {fc : FE ε2 ε3 Bool} {w : ε → ε2} {fb : FS ε3 ε2 ρ β₁ γ₁} (hw : WK E E2 w) (hc : TB X c EX E2 E3 cnd fc) (hb : TSs X c EX E3 E2 N body fb) (hp : PassesOwn (model X.prog X.w) X.A X.env X.xe := by exact passes_of rfl) :
    TS X c EX E E3 N (.While cnd body [] pos) (fun ω s kn kr _ _ => bd (whP (fun s2 => fc (Fl ε2 ε3) s2 fun z s3 => if z = true then fb (Fl ε2 ε3) s3 (fun s4 => .ok (.nx s4)) nb nb nb else .ok (.rt s3)) (w s)) kn) := by
  obtain ⟨tc, jc, hc⟩ := hc
  obtain ⟨tb, jb, hb⟩ := hb
  refine ⟨_, st_while jc jb hp, fun ω s σ kn kr kb kc κ Dn hE q d => ?_⟩
  obtain ⟨n, q2⟩ := whP_ex (sat_bd q)
  refine ⟨fun m σ' => ∃ s', E2 s' σ' ∧ Sat _ (whN _ m s'), ⟨n, _, hw.w _ _ hE, q2⟩, fun m σ' ⟨s', e', q'⟩ => ?_⟩
  cases m with
  | zero => exact q'.elim
  | succ m =>
    unfold whN at q'
    refine hc _ s' σ' _ _ Dn.xn _ e' (sat_bd q') (fun z s3 σ3 e3 q3 => ?_) d.xn
    cases z with
    | false => exact d.nx _ _ e3 q3
    | true =>
      refine hb _ s3 σ3 _ nb nb nb _ { Dn with nx := fun σ' => ∃ m', m' < m + 1 ∧ ∃ s', E2 s' σ' ∧ Sat _ (whN _ m' s'), ct := fun σ' => ∃ m', m' < m + 1 ∧ ∃ s', E2 s' σ' ∧ Sat _ (whN _ m' s'), bk := Dn.nx } e3 q3 ⟨fun s4 σ4 e4 q4 => ⟨m, by omega, s4, e4, q4⟩, fun _ _ _ _ q' => q'.elim, fun _ _ _ _ q' => q'.elim, fun _ _ _ _ _ q' => q'.elim, fun _ _ _ q' => q'.elim, fun _ _ _ q' => q'.elim, d.xn⟩

/-! comprehensions -/
abbrev dL' {α : Type} (t : α → D) : List α → M := mL t
theorem dev_imp {t t' : DV} (h : DEv X c e t) (hi : ∀ W σ Q, t' W σ Q → t W σ Q) : DEv X c e t' := fun n W tk => by
  obtain ⟨tv, pe, hr⟩ := h n W tk
  exact ⟨tv, pe, fun σ σv H Q Qv g up q k => hr σ σv H Q Qv g up (hi _ _ _ q) k⟩
theorem dtt_imp {t t' : DB} (h : DTt X c ifs t) (hi : ∀ W σ Q, t' W σ Q → t W σ Q) : DTt X c ifs t' := fun n W tk => by
  obtain ⟨tv, pe, hr⟩ := h n W tk
  exact ⟨tv, pe, fun σ σv H Q Qv g up q k => hr σ σv H Q Qv g up (hi _ _ _ q) k⟩
theorem dg_imp {is : List Nat} {g g' : GT} (h : DG X c tg is g) (hi : ∀ d σ Q, g' d σ Q → g d σ Q) : DG X c tg is g' := by
  obtain ⟨gv, pg, hr⟩ := h
  exact ⟨gv, pg, fun d σ σv v H Q Qv g r q k => hr d σ σv v H Q Qv g r (hi _ _ _ q) k⟩
theorem lc_uni {scope : Scope} {is : List Nat} {put : α → ε2 → ε3} {fe : FE ε3 ε4 β} (hg : ∀ f : BF, TG (bX X scope f) c E2 E3 T tg is put) (he : ∀ f : BF, TM (bX X scope f) c EX E3 E4 T2 e fe) :
    (∃ g, (∀ f : BF, DG (bX X scope f) c tg is g) ∧ ∀ a s σ (Q : DS → Prop), E2 s σ → (∀ σ', E3 (put a s) σ' → Q σ') → g (T a) σ Q) ∧
    ∃ te, (∀ f : BF, DEv (bX X scope f) c e te) ∧ ∀ (ω : Type) (s : ε3) (σ : DS) (k : β → ε4 → Pm ω) (κ : Ka ω) (W : DK) (Q : D → DS → Prop), E3 s σ → Sat κ (fe ω s k) → (∀ a s' σ', E4 s' σ' → Sat κ (k a s') → Q (T2 a) σ') → (∀ x σ', EX σ' → κ.X x → W x σ') → te W σ Q := by
  refine ⟨⟨fun d σ Q => ∀ f, Classical.choose (hg f) d σ Q, fun f => dg_imp (Classical.choose_spec (hg f)).1 fun _ _ _ q => q f, fun a s σ Q hE hk f => (Classical.choose_spec (hg f)).2 a s σ Q hE hk⟩,
    ⟨fun W σ Q => ∀ f, Classical.choose (he f) W σ Q, fun f => dev_imp (Classical.choose_spec (he f)).1 fun _ _ _ q => q f, fun ω s σ k κ W Q hE q hk hx f => (Classical.choose_spec (he f)).2 ω s σ k κ W Q hE q hk hx⟩⟩
theorem lc_uniT {scope : Scope} {ft : FE ε3 ε3 Bool} (ht : ∀ f : BF, TB (bX X scope f) c EX E3 E3 b ft) :
    ∃ tt, (∀ f : BF, DBt (bX X scope f) c b tt) ∧ ∀ (ω : Type) (s : ε3) (σ : DS) (k : Bool → ε3 → Pm ω) (κ : Ka ω) (W : DK) (Q : Bool → DS → Prop), E3 s σ → Sat κ (ft ω s k) → (∀ a s' σ', E3 s' σ' → Sat κ (k a s') → Q a σ') → (∀ x σ', EX σ' → κ.X x → W x σ') → tt W σ Q := by
  refine ⟨fun W σ Q => ∀ f, Classical.choose (ht f) W σ Q, fun f n W tk => ?_, fun ω s σ k κ W Q hE q hk hx f => (Classical.choose_spec (ht f)).2 ω s σ k κ W Q hE q hk hx⟩
  obtain ⟨tv, pe, hr⟩ := (Classical.choose_spec (ht f)).1 n W tk
  exact ⟨tv, pe, fun σ σv H Q Qv g up q k => hr σ σv H Q Qv g up (q f) k⟩
/-- [e for x in xs], e may change the state; mk makes the list's judgement of its parts -/
def LcMk (X : Cx) (c : DC) (tg iter : Expr) (ifs : List Expr) (e : Expr) (scope : Scope) (is own : List Nat) {κ : Type} (J : κ → Prop) (h : DM → κ) : Prop :=
  ∀ {ti g tt te}, DI X c tg iter ti → (∀ f : BF, DG (bX X scope f) c tg is g) → (∀ f : BF, DTt (bX X scope f) c ifs tt) → (∀ f : BF, DEv (bX X scope f) c e te) → J (h (dLc own ti g tt te))
theorem tt_nil' : DTt X c [] bYes := fun n W tk => ⟨_, pts_nil, fun σ σv H Q Qv g up q k => k _ _ _ g (Mv.refl σ σv H) q⟩
theorem lc_S {scope : Scope} {is own : List Nat} {fi : FE ε ε1 (List α)} {w : ε1 → ε2} {put : α → ε2 → ε3} {fe : FE ε3 ε4 β} {w2 : ε4 → ε2} {κ0 : Type} {J : κ0 → Prop} {h0 : DM → κ0} (mk : LcMk X c tg iter [] e scope is own J h0)
    (hi : TI X c EX E E1 T tg iter fi) (hw : WK E1 E2 w) (hf : FG E2 own) (hg : ∀ f : BF, TG (bX X scope f) c E2 E3 T tg is put) (he : ∀ f : BF, TM (bX X scope f) c EX E3 E4 T2 e fe) (hw2 : WK E4 E2 w2) :
    ∃ t : DM, J (h0 t) ∧ ∀ (ω : Type) (s : ε) (σ : DS) (k : List β → ε2 → Pm ω) (κ : Ka ω) (W : DK) (Q : M → DS → Prop), E s σ →
      Sat κ (fi ω s fun xs s1 => lnP xs fun _ => bx (mapS xs (w s1) fun x s2 => fe (β × ε2) (put x s2) fun y s3 => .ok (y, w2 s3)) fun p => k p.1 p.2) →
      (∀ a s' σ', E2 s' σ' → Sat κ (k a s') → Q (mL T2 a) σ') → (∀ x σ', EX σ' → κ.X x → W x σ') → t W σ Q := by
  obtain ⟨ti, ji, hi⟩ := hi
  obtain ⟨⟨g, jg, hg⟩, te, je, he⟩ := lc_uni hg he
  refine ⟨_, mk ji jg (fun _ => tt_nil') je, fun ω s σ k κ W Q hE q hk hx => hi ω s σ _ κ W _ hE q (fun xs s1 σ1 e1 q1 => ?_) hx⟩
  unfold lnP at q1
  split at q1
  · next hl =>
    refine ⟨by rw [List.length_map]; exact hl, ?_⟩
    have q3 := sat_bx q1
    have e2 := hf.f _ _ (hw.w _ _ e1)
    have key : ∀ (xs : List α) (s2 : ε2) (σ2 : DS) (acc : List β) (P : List β × ε2 → Prop), E2 s2 σ2 → Sat ⟨P, fun _ => False⟩ (mapS xs s2 fun x s2 => fe (β × ε2) (put x s2) fun y s3 => .ok (y, w2 s3)) →
        (∀ ys s' σ', E2 s' σ' → P (ys, s') → Q (.lst ((acc ++ ys).map T2)) σ') → lcD own g bYes te (xs.map T) (acc.map T2) σ2 (fun acc σ2 => Q (.lst acc) σ2) := fun xs => by
      induction xs with
      | nil =>
        intro s2 σ2 acc P e2 q2 hP
        have := hP [] s2 σ2 e2 q2
        rw [List.append_nil] at this
        exact this
      | cons x xs ih =>
        intro s2 σ2 acc P e2 q2 hP
        refine hg x s2 σ2 _ e2 fun σ3 e3 => ?_
        show te W0 σ3 _
        unfold mapS at q2
        refine he _ _ σ3 _ _ W0 _ e3 (sat_bx q2) (fun y s4 σ4 e4 q4 => ?_) (fun _ _ _ z => z.elim)
        have q5 := sat_bx (show Sat ⟨P, fun _ => False⟩ (bx (mapS xs (w2 s4) _) _) from q4)
        have := ih (w2 s4) (forget σ4 own) (acc ++ [y]) _ (hf.f _ _ (hw2.w _ _ e4)) q5 (fun ys s' σ' e' p' => by
          have := hP (y :: ys) s' σ' e' p'
          rw [List.append_assoc]
          exact this)
        rw [List.map_append] at this
        exact this
    have := key xs (w s1) _ [] _ e2 q3 (fun ys s' σ' e' p' => hk ys s' σ' e' p')
    exact this
  · exact q1.elim
/-- .. e changes nothing -/
theorem lc_P {scope : Scope} {is own : List Nat} {fi : FE ε ε1 (List α)} {w : ε1 → ε2} {put : α → ε2 → ε3} {fe : FE ε3 ε3 β} {κ0 : Type} {J : κ0 → Prop} {h0 : DM → κ0} (mk : LcMk X c tg iter [] e scope is own J h0)
    (hi : TI X c EX E E1 T tg iter fi) (hw : WK E1 E2 w) (hf : FG E2 own) (hg : ∀ f : BF, TG (bX X scope f) c E2 E3 T tg is put) (he : ∀ f : BF, TM (bX X scope f) c EX E3 E3 T2 e fe) (w2 : ε3 → ε2) (hw2 : WK E3 E2 w2) (hp : ∀ ω s (k : β → ε3 → Pm ω), fe ω s k = fe ω s fun a _ => k a s) (hwp : ∀ x s, w2 (put x s) = s) :
    ∃ t : DM, J (h0 t) ∧ ∀ (ω : Type) (s : ε) (σ : DS) (k : List β → ε2 → Pm ω) (κ : Ka ω) (W : DK) (Q : M → DS → Prop), E s σ →
      Sat κ (fi ω s fun xs s1 => lnP xs fun _ => bx (mapP xs fun x => fe β (put x (w s1)) fun y _ => .ok y) fun ys => k ys (w s1)) →
      (∀ a s' σ', E2 s' σ' → Sat κ (k a s') → Q (mL T2 a) σ') → (∀ x σ', EX σ' → κ.X x → W x σ') → t W σ Q := by
  obtain ⟨ti, ji, hi⟩ := hi
  obtain ⟨⟨g, jg, hg⟩, te, je, he⟩ := lc_uni hg he
  refine ⟨_, mk ji jg (fun _ => tt_nil') je, fun ω s σ k κ W Q hE q hk hx => hi ω s σ _ κ W _ hE q (fun xs s1 σ1 e1 q1 => ?_) hx⟩
  unfold lnP at q1
  split at q1
  · next hl =>
    refine ⟨by rw [List.length_map]; exact hl, ?_⟩
    have q3 := sat_bx q1
    have e2 := hf.f _ _ (hw.w _ _ e1)
    have key : ∀ (xs : List α) (σ2 : DS) (acc : List β) (P : List β → Prop), E2 (w s1) σ2 → Sat ⟨P, fun _ => False⟩ (mapP xs fun x => fe β (put x (w s1)) fun y _ => .ok y) →
        (∀ ys σ', E2 (w s1) σ' → P ys → Q (.lst ((acc ++ ys).map T2)) σ') → lcD own g bYes te (xs.map T) (acc.map T2) σ2 (fun acc σ2 => Q (.lst acc) σ2) := fun xs => by
      induction xs with
      | nil =>
        intro σ2 acc P e2 q2 hP
        have := hP [] σ2 e2 q2
        rw [List.append_nil] at this
        exact this
      | cons x xs ih =>
        intro σ2 acc P e2 q2 hP
        refine hg x (w s1) σ2 _ e2 fun σ3 e3 => ?_
        show te W0 σ3 _
        unfold mapP at q2
        refine pure_of (u := T2) he hp _ _ σ3 .ok _ W0 _ e3 (sat_bx q2) (fun y σ4 e4 q4 => ?_) (fun _ _ _ z => z.elim)
        have q5 := sat_bx (show Sat ⟨P, fun _ => False⟩ (bx (mapP xs _) _) from q4)
        have e5 := hf.f _ _ (hw2.w _ _ e4)
        rw [hwp] at e5
        have := ih (forget σ4 own) (acc ++ [y]) _ e5 q5 (fun ys σ' e' p' => by
          have := hP (y :: ys) σ' e' p'
          rw [List.append_assoc]
          exact this)
        rw [List.map_append] at this
        exact this
    exact key xs _ [] _ e2 q3 (fun ys σ' e' p' => hk ys _ σ' e' p')
  · exact q1.elim
theorem lc_F {scope : Scope} {is own : List Nat} {fi : FE ε ε1 (List α)} {w : ε1 → ε2} {put : α → ε2 → ε3} {ft : FE ε3 ε3 Bool} {fe : FE ε3 ε3 β} {κ0 : Type} {J : κ0 → Prop} {h0 : DM → κ0} (mk : LcMk X c tg iter [b] e scope is own J h0)
    (hi : TI X c EX E E1 T tg iter fi) (hw : WK E1 E2 w) (hf : FG E2 own) (hg : ∀ f : BF, TG (bX X scope f) c E2 E3 T tg is put) (ht : ∀ f : BF, TB (bX X scope f) c EX E3 E3 b ft) (he : ∀ f : BF, TM (bX X scope f) c EX E3 E3 T2 e fe) (w2 : ε3 → ε2) (hw2 : WK E3 E2 w2)
    (hpt : ∀ ω s (k : Bool → ε3 → Pm ω), ft ω s k = ft ω s fun a _ => k a s) (hp : ∀ ω s (k : β → ε3 → Pm ω), fe ω s k = fe ω s fun a _ => k a s) (hwp : ∀ x s, w2 (put x s) = s) :
    ∃ t : DM, J (h0 t) ∧ ∀ (ω : Type) (s : ε) (σ : DS) (k : List β → ε2 → Pm ω) (κ : Ka ω) (W : DK) (Q : M → DS → Prop), E s σ →
      Sat κ (fi ω s fun xs s1 => lnP xs fun _ => bx (filP xs fun x => ft (Option β) (put x (w s1)) fun z _ => if z = true then fe (Option β) (put x (w s1)) fun y _ => .ok (some y) else .ok none) fun ys => k ys (w s1)) →
      (∀ a s' σ', E2 s' σ' → Sat κ (k a s') → Q (mL T2 a) σ') → (∀ x σ', EX σ' → κ.X x → W x σ') → t W σ Q := by
  obtain ⟨ti, ji, hi⟩ := hi
  obtain ⟨⟨g, jg, hg⟩, te, je, he⟩ := lc_uni hg he
  obtain ⟨tt, jt, ht⟩ := lc_uniT ht
  refine ⟨_, mk ji jg (fun f => tt_one (jt f)) je, fun ω s σ k κ W Q hE q hk hx => hi ω s σ _ κ W _ hE q (fun xs s1 σ1 e1 q1 => ?_) hx⟩
  unfold lnP at q1
  split at q1
  · next hl =>
    refine ⟨by rw [List.length_map]; exact hl, ?_⟩
    have q3 := sat_bx q1
    have e2 := hf.f _ _ (hw.w _ _ e1)
    have key : ∀ (xs : List α) (σ2 : DS) (acc : List β) (P : List β → Prop), E2 (w s1) σ2 → Sat ⟨P, fun _ => False⟩ (filP xs fun x => ft (Option β) (put x (w s1)) fun z _ => if z = true then fe (Option β) (put x (w s1)) fun y _ => .ok (some y) else .ok none) →
        (∀ ys σ', E2 (w s1) σ' → P ys → Q (.lst ((acc ++ ys).map T2)) σ') → lcD own g tt te (xs.map T) (acc.map T2) σ2 (fun acc σ2 => Q (.lst acc) σ2) := fun xs => by
      induction xs with
      | nil =>
        intro σ2 acc P e2 q2 hP
        have := hP [] σ2 e2 q2
        rw [List.append_nil] at this
        exact this
      | cons x xs ih =>
        intro σ2 acc P e2 q2 hP
        refine hg x (w s1) σ2 _ e2 fun σ3 e3 => ?_
        unfold filP at q2
        refine pure_of (u := fun b => b) ht hpt _ _ σ3 _ _ W0 _ e3 (sat_bx q2) (fun z σ4 e4 q4 => ?_) (fun _ _ _ z => z.elim)
        cases z with
        | false =>
          show lcD own g tt te _ _ _ _
          have q5 := sat_bx (show Sat ⟨P, fun _ => False⟩ (bx (filP xs _) _) from q4)
          have e5 := hf.f _ _ (hw2.w _ _ e4)
          rw [hwp] at e5
          exact ih (forget σ4 own) acc _ e5 q5 (fun ys σ' e' p' => hP ys σ' e' p')
        | true =>
          show te W0 σ4 _
          refine pure_of (u := T2) he hp _ _ σ4 _ _ W0 _ e4 q4 (fun y σ5 e5 q5 => ?_) (fun _ _ _ z => z.elim)
          have q6 := sat_bx (show Sat ⟨P, fun _ => False⟩ (bx (filP xs _) _) from q5)
          have e6 := hf.f _ _ (hw2.w _ _ e5)
          rw [hwp] at e6
          have := ih (forget σ5 own) (acc ++ [y]) _ e6 q6 (fun ys σ' e' p' => by
            have := hP (y :: ys) σ' e' p'
            rw [List.append_assoc]
            exact this)
          rw [List.map_append] at this
          exact this
    exact key xs _ [] _ e2 q3 (fun ys σ' e' p' => hk ys _ σ' e' p')
  · exact q1.elim
end
end TL
namespace TL
open PySem PySem.Spec PyProof.Rows L2 DL
/-! ### defs and calls -/
section
variable {ε ε' α ρ μ A : Type}
structure LN (E : ε → DS → Prop) (n : Nat) : Prop where
  l : ∀ s σ, E s σ → n ≤ σ.length
variable {E : ε → DS → Prop} {n : Nat} {T : α → D} {TO : α → M}
theorem ln0 : LN E 0 := ⟨fun _ _ _ => Nat.zero_le _⟩
theorem lnV (h : LN E n) : LN (EnV T E) (n + 1) := ⟨fun s σ ⟨σ', e, r⟩ => by subst e; exact Nat.succ_le_succ (h.l _ _ r)⟩
theorem lnO (h : LN E n) : LN (EnO TO E) (n + 1) := ⟨fun s σ ⟨σ', e, r⟩ => by subst e; exact Nat.succ_le_succ (h.l _ _ r)⟩
theorem lnX (h : LN E n) : LN (EnX E) (n + 1) := ⟨fun s σ ⟨z, σ', e, r⟩ => by subst e; exact Nat.succ_le_succ (h.l _ _ r)⟩
/-- never -/
def EnF : Unit → DS → Prop := fun _ _ => False
abbrev EXv (n : Nat) : DS → Prop := fun σ => n ≤ σ.length
abbrev EXo (n : Nat) : DS → Prop := fun σ => (∃ m, σ[0]? = some (Sl.ow m)) ∧ n ≤ σ.length
abbrev NdV (T : ρ → D) (n : Nat) : Nd ρ Unit Unit := ⟨fun r d σ => d = T r ∧ n ≤ σ.length, fun _ _ _ => False, fun _ _ _ _ => False, fun _ _ => False, fun _ _ => False⟩
abbrev NdM (T : ρ → M) (n : Nat) : Nd ρ Unit Unit := ⟨fun _ _ _ => False, fun r m σ => m = T r ∧ n ≤ σ.length, fun r i m σ => m = T r ∧ n ≤ i ∧ n ≤ σ.length, fun _ _ => False, fun _ _ => False⟩
abbrev NdO (T : ρ → D) (TO : μ → M) (n : Nat) : Nd (ρ × μ) Unit Unit := ⟨fun r d σ => d = T r.1 ∧ σ[0]? = some (.ow (TO r.2)) ∧ n ≤ σ.length, fun _ _ _ => False, fun _ _ _ _ => False, fun _ _ => False, fun _ _ => False⟩
/-- what a def does, as a function: values alone -/
def SpV (as : A → List Sl) (f : A → Pm ρ) (TR : ρ → Rt) : DSp := fun sl Q Ex => ∃ a, sl = as a ∧ Sat ⟨fun r => Q (TR r) [], fun x => ∀ m, Ex x m⟩ (f a)
/-- .. an own object first -/
def SpO (as : A → List Sl) (f : μ → A → Pm (ρ × μ)) (TR : ρ → Rt) (TO : μ → M) : DSp := fun sl Q Ex => ∃ m a, sl = .ow (TO m) :: as a ∧ Sat ⟨fun p => Q (TR p.1) [TO p.2], fun x => ∀ m, Ex x m⟩ (f m a)
theorem outM_vals : ∀ {ds : List D} {σ : DS}, ds.length ≤ σ.length → outM (ds.map .val) σ = some []
  | [], _, _ => rfl
  | _ :: _, [], h => by simp at h
  | d :: ds, z :: σ, h => by
    show outM (ds.map .val) σ = some []
    exact outM_vals (by simpa using h)
theorem noOw_vals : ∀ {ds : List D}, noOw (ds.map .val) = true
  | [] => rfl
  | _ :: ds => noOw_vals (ds := ds)
end
section
variable {P : Program} {w : World} {K : PySem.W.Frag} {mg : Str → Option Value} {base : Heap} {k : Nat} {x : Str} {st : Stmt} {N ps : List Str} {f : Addr} {fd : FuncData} {A ρ μ ε0 ε'' : Type} {E0 : ε0 → DS → Prop} {EN : ε'' → DS → Prop}
abbrev BindH (x : Str) (st : Stmt) (ps : List Str) : Prop := ∀ (kV doc pm : Value) (an : Option Addr) (cdv ct : Value) (us : List Value), us.length = ps.length → bindArgs (PySem.W.fnOf x x (defArgs st) (defBody st) (defScope st) .none kV doc pm an cdv ct) ⟨us, []⟩ = pure (ps.zip us)
abbrev DerH (P : Program) (w : World) (K : PySem.W.Frag) (mg : Str → Option Value) (base : Heap) (k : Nat) (x : Str) (st : Stmt) (N ps : List Str) (f : Addr) {ε0 ε'' ρ β γ : Type} (EX : DS → Prop) (E0 : ε0 → DS → Prop) (EN : ε'' → DS → Prop) (Nn : Nd ρ β γ) (g : FS ε0 ε'' ρ β γ) : Prop :=
  ∀ (cdv : Value) (A : Around) (outer : List Env) (s : Shared) (H : Hp) (E : XK) (c : DC), RoomG k (A.deeper (envOfC x (defScope st) s.heap.objs.size f cdv)) → c.pa.length ≤ ps.length → TSs (cxOf (L2.CX P w) P w K mg base N x (defScope st) f cdv A outer s H E) c EX E0 EN Nn (defBody st) g
theorem t_calV (F : L2.Fun K x x st f fd) (hm : mg x = some (.ref f)) (Sc : FnScope N ps (defScope st)) (hb : BindH x st ps) (vs : A → List D) (hv : ∀ a, (vs a).length = ps.length) (T : ρ → D) (fn : A → Pm ρ) (init : A → ε0) (h0 : ∀ a, E0 (init a) (slots0 N.length ((vs a).map .val))) {g : FS ε0 ε'' ρ Unit Unit}
    (der : DerH P w K mg base k x st N ps f (EXv ps.length) E0 EN (NdV T ps.length) g) (wN : ε'' → Pm ρ) (hN : ∀ s σ κ, EN s σ → Sat κ (wN s) → ∃ r, κ.P r ∧ T r = .none ∧ ps.length ≤ σ.length) (hf : ∀ a, g ρ (init a) wN .ok nb nb = fn a) :
    Cal P w K mg base (k + 1) x st ps (SpV (fun a => (vs a).map .val) fn (fun r => .d (T r))) := by
  refine cal_of F hm Sc hb fun cdv A outer s H E c hr hp => ?_
  obtain ⟨t, j, h⟩ := der cdv A outer s H E c hr hp
  refine ⟨t, j, ?_⟩
  rintro as Q Ex - ⟨a, rfl, q⟩
  rw [← hf] at q
  refine h _ _ _ _ _ _ _ _ _ (h0 a) q ⟨fun s' σ' e' q' => ?_, fun r d σ' e' q' => ?_, fun _ _ _ z => z.elim, fun _ _ _ _ z => z.elim, fun _ _ z => z.elim, fun _ _ z => z.elim, fun x σ' e' q' => ⟨[], outM_vals (by rw [hv]; exact e'), q' []⟩⟩
  · obtain ⟨r, h1, h2, h3⟩ := hN s' σ' _ e' q'
    refine ⟨[], outM_vals (by rw [hv]; exact h3), ?_⟩
    rw [← h2]
    exact h1
  · obtain ⟨rfl, h3⟩ := e'
    exact ⟨[], outM_vals (by rw [hv]; exact h3), q'⟩
theorem t_calM (F : L2.Fun K x x st f fd) (hm : mg x = some (.ref f)) (Sc : FnScope N ps (defScope st)) (hb : BindH x st ps) (vs : A → List D) (hv : ∀ a, (vs a).length = ps.length) (T : ρ → M) (fn : A → Pm ρ) (init : A → ε0) (h0 : ∀ a, E0 (init a) (slots0 N.length ((vs a).map .val))) {g : FS ε0 Unit ρ Unit Unit}
    (der : DerH P w K mg base k x st N ps f (EXv ps.length) E0 EnF (NdM T ps.length) g) (hf : ∀ a, g ρ (init a) nb .ok nb nb = fn a) :
    Cal P w K mg base (k + 1) x st ps (SpV (fun a => (vs a).map .val) fn (fun r => .m (T r))) := by
  refine cal_of F hm Sc hb fun cdv A outer s H E c hr hp => ?_
  obtain ⟨t, j, h⟩ := der cdv A outer s H E c hr hp
  refine ⟨t, j, ?_⟩
  rintro as Q Ex - ⟨a, rfl, q⟩
  rw [← hf] at q
  refine h _ _ _ _ _ _ _ _ _ (h0 a) q ⟨fun _ _ z => z.elim, fun _ _ _ z => z.elim, fun r d σ' e' q' => ?_, fun r i d σ' e' q' => ?_, fun _ _ z => z.elim, fun _ _ z => z.elim, fun x σ' e' q' => ⟨[], outM_vals (by rw [hv]; exact e'), q' []⟩⟩
  · obtain ⟨rfl, h3⟩ := e'
    exact ⟨noOw_vals, q'⟩
  · obtain ⟨rfl, h3, h4⟩ := e'
    exact ⟨h3, [], outM_vals (by rw [hv]; exact h4), q'⟩
theorem t_calO (F : L2.Fun K x x st f fd) (hm : mg x = some (.ref f)) (Sc : FnScope N ps (defScope st)) (hb : BindH x st ps) (vs : A → List D) (hv : ∀ a, (vs a).length + 1 = ps.length) (T : ρ → D) (TO : μ → M) (fn : μ → A → Pm (ρ × μ)) (init : μ → A → ε0) (h0 : ∀ m a, E0 (init m a) (slots0 N.length (.ow (TO m) :: (vs a).map .val))) {g : FS ε0 ε'' (ρ × μ) Unit Unit}
    (der : DerH P w K mg base k x st N ps f (EXo ps.length) E0 EN (NdO T TO ps.length) g) (wN : ε'' → Pm (ρ × μ)) (hN : ∀ s σ κ, EN s σ → Sat κ (wN s) → ∃ r, κ.P r ∧ T r.1 = .none ∧ σ[0]? = some (.ow (TO r.2)) ∧ ps.length ≤ σ.length) (hf : ∀ m a, g (ρ × μ) (init m a) wN .ok nb nb = fn m a) :
    Cal P w K mg base (k + 1) x st ps (SpO (fun a => (vs a).map .val) fn (fun r => .d (T r)) TO) := by
  refine cal_of F hm Sc hb fun cdv A outer s H E c hr hp => ?_
  obtain ⟨t, j, h⟩ := der cdv A outer s H E c hr hp
  refine ⟨t, j, ?_⟩
  rintro as Q Ex - ⟨m, a, rfl, q⟩
  rw [← hf] at q
  have out : ∀ {σ : DS} {m1 m' : M}, σ[0]? = some (.ow m') → ps.length ≤ σ.length → outM (.ow m1 :: (vs a).map .val) σ = some [m'] := fun {σ m1 m'} h1 h2 => by
    cases σ with
    | nil => simp at h1
    | cons z σ =>
      simp at h1
      subst h1
      show (outM ((vs a).map .val) σ).map (m' :: ·) = some [m']
      have := hv a
      rw [outM_vals (by simp at h2; omega)]
      rfl
  refine h _ _ _ _ _ _ _ _ _ (h0 m a) q ⟨fun s' σ' e' q' => ?_, fun r d σ' e' q' => ?_, fun _ _ _ z => z.elim, fun _ _ _ _ z => z.elim, fun _ _ z => z.elim, fun _ _ z => z.elim, fun x σ' e' q' => ?_⟩
  · obtain ⟨r, h1, h2, h3, h4⟩ := hN s' σ' _ e' q'
    refine ⟨_, out h3 h4, ?_⟩
    rw [← h2]
    exact h1
  · obtain ⟨rfl, h3, h4⟩ := e'
    exact ⟨_, out h3 h4, q'⟩
  · obtain ⟨⟨m', h3⟩, h4⟩ := e'
    exact ⟨_, out h3 h4, q' _⟩
end
section
variable {X : Cx} {c : DC} {EX : DS → Prop} {ε ε1 ε2 ε3 ε4 ε' ε'' α β γ δ ρ μ A : Type} {E : ε → DS → Prop} {E1 : ε1 → DS → Prop} {E2 : ε2 → DS → Prop} {E3 : ε3 → DS → Prop} {E' : ε' → DS → Prop} {EN : ε'' → DS → Prop}
variable {e a b ec : Expr} {es rest : List Expr} {st : Stmt} {pos : Pos} {i j n m : Nat} {T : α → D} {TO : μ → M} {f : FE ε ε' α} {kws : List Keyword}
/-- what holds where something is raised -/
structure XE (E : ε → DS → Prop) (EX : DS → Prop) : Prop where
  x : ∀ s σ, E s σ → EX σ
structure XO (E : ε → DS → Prop) (i : Nat) (EX : DS → Prop) : Prop where
  x : ∀ s σ m, E s σ → EX σ ∧ EX (σ.set i (.ow m))
theorem xe_v (h : LN E n) : XE E (EXv n) := ⟨fun s σ e => h.l s σ e⟩
theorem xe_o {get : ε → μ} (o : SO E 0 TO get) (h : LN E n) : XE E (EXo n) := ⟨fun s σ e => ⟨⟨_, o.g s σ e⟩, h.l s σ e⟩⟩
theorem xo_v (h : LN E n) : XO E i (EXv n) := ⟨fun s σ m e => ⟨h.l s σ e, by show n ≤ (σ.set i _).length; rw [List.length_set]; exact h.l s σ e⟩⟩
theorem xo_o {get : ε → μ} (o : SO E 0 TO get) (h : LN E n) : XO E i (EXo n) := ⟨fun s σ m e => ⟨⟨⟨_, o.g s σ e⟩, h.l s σ e⟩, ⟨by
  by_cases z : i = 0
  · subst z
    have h1 := o.g s σ e
    have hl : 0 < σ.length := (List.getElem?_eq_some_iff.mp h1).1
    exact ⟨m, by rw [List.getElem?_set_self hl]⟩
  · exact ⟨_, by rw [List.getElem?_set_ne z]; exact o.g s σ e⟩, by rw [List.length_set]; exact h.l s σ e⟩⟩⟩
theorem ret_v {T : ρ → D} (h : LN E n) : ∀ (a : ρ) (s : ε) (σ : DS), E s σ → (NdV T n).rt a (T a) σ := fun a s σ e => ⟨rfl, h.l s σ e⟩
theorem ret_o {T : ρ → D} {get : ε → μ} (o : SO E 0 TO get) (h : LN E n) : ∀ (a : ρ) (s : ε) (σ : DS), E s σ → (NdO T TO n).rt (a, get s) (T a) σ := fun a s σ e => ⟨rfl, o.g s σ e, h.l s σ e⟩
theorem ret_m {T : ρ → M} (h : LN E n) : ∀ (a : ρ) (s : ε) (σ : DS), E s σ → (NdM T n).rm a (T a) σ := fun a s σ e => ⟨rfl, h.l s σ e⟩
theorem ret_mo {T : ρ → M} {get : ε → ρ} (hj : n ≤ j) (h : LN E n) : ∀ (s : ε) (σ : DS), E s σ → (NdM T n).ro (get s) j (T (get s)) σ := fun s σ e => ⟨rfl, hj, h.l s σ e⟩
/-- arguments: values -/
def TV (X : Cx) (c : DC) (EX : DS → Prop) (E : ε → DS → Prop) (E' : ε' → DS → Prop) (T : α → List D) (es : List Expr) (f : FE ε ε' α) : Prop :=
  ∃ t : DAg, DAgs X c es t ∧ ∀ (ω : Type) (s : ε) (σ : DS) (k : α → ε' → Pm ω) (κ : Ka ω) (W : DK) (Q : List Ag → DS → Prop), E s σ → Sat κ (f ω s k) →
    (∀ a s' σ', E' s' σ' → Sat κ (k a s') → Q ((T a).map .v) σ') → (∀ x σ', EX σ' → κ.X x → W x σ') → t W σ Q
theorem tv_nil : TV X c EX E E (fun (_ : Unit) => []) [] (fun _ s k => k () s) := ⟨_, ag_nil, fun ω s σ k κ W Q hE h hk hx => hk _ _ _ hE h⟩
theorem tv_cons {Ts : β → List D} {f : FE ε ε1 α} {g : FE ε1 ε2 β} (h : TM X c EX E E1 T e f) (hs : TV X c EX E1 E2 Ts es g) (hst : starEach (e :: es) X.env = (false, eval e X.env) :: starEach es X.env := by rfl) :
    TV X c EX E E2 (fun (p : α × β) => T p.1 :: Ts p.2) (e :: es) (fun ω s k => f ω s fun a s1 => g ω s1 fun b s2 => k (a, b) s2) := by
  obtain ⟨t, j, h⟩ := h
  obtain ⟨u, js, hs⟩ := hs
  exact ⟨_, ag_v j js hst, fun ω s σ k κ W Q hE q hk hx => h ω s σ _ κ W _ hE q (fun a s1 σ1 e1 q1 => hs ω s1 σ1 _ κ W _ e1 q1 (fun b s2 σ2 e2 q2 => hk (a, b) s2 σ2 e2 q2) hx) hx⟩
def TK (X : Cx) (c : DC) (EX : DS → Prop) (E : ε → DS → Prop) (E' : ε' → DS → Prop) (T : α → List D) (kws : List Keyword) (f : FE ε ε' α) : Prop :=
  ∃ t : DA, DKw X c kws t ∧ ∀ (ω : Type) (s : ε) (σ : DS) (k : α → ε' → Pm ω) (κ : Ka ω) (W : DK) (Q : List D → DS → Prop), E s σ → Sat κ (f ω s k) →
    (∀ a s' σ', E' s' σ' → Sat κ (k a s') → Q (T a) σ') → (∀ x σ', EX σ' → κ.X x → W x σ') → t W σ Q
theorem tk_nil : TK X c EX E E (fun (_ : Unit) => []) [] (fun _ s k => k () s) := ⟨_, dk_nil, fun ω s σ k κ W Q hE h hk hx => hk _ _ _ hE h⟩
theorem tk_cons {Ts : β → List D} {f : FE ε ε1 α} {g : FE ε1 ε2 β} {nm : Option Str} {kpos : Pos} (h : TM X c EX E E1 T e f) (hs : TK X c EX E1 E2 Ts kws g) :
    TK X c EX E E2 (fun (p : α × β) => T p.1 :: Ts p.2) (⟨nm, e, kpos⟩ :: kws) (fun ω s k => f ω s fun a s1 => g ω s1 fun b s2 => k (a, b) s2) := by
  obtain ⟨t, j, h⟩ := h
  obtain ⟨u, js, hs⟩ := hs
  exact ⟨_, dk_cons j js, fun ω s σ k κ W Q hE q hk hx => h ω s σ _ κ W _ hE q (fun a s1 σ1 e1 q1 => hs ω s1 σ1 _ κ W _ e1 q1 (fun b s2 σ2 e2 q2 => hk (a, b) s2 σ2 e2 q2) hx) hx⟩
theorem args_vals (σ : DS) : ∀ {ds : List D} {k : List Sl → Prop}, k (ds.map .val) → argsOf σ (ds.map .v) k
  | [], _, h => h
  | d :: ds, k, h => args_vals σ (ds := ds) (k := fun as => k (.val d :: as)) h
theorem back_vals (σ : DS) (ms : List M) : ∀ {ds : List D}, back σ (ds.map .v) ms = σ
  | [] => rfl
  | _ :: ds => back_vals σ ms (ds := ds)
theorem own1_vals : ∀ {ds : List D}, own1 (ds.map .val) = true
  | [] => rfl
  | _ :: ds => own1_vals (ds := ds)
/-- what a result is as a value -/
def viewR : Rt → D
  | .d x => x
  | .m m => m.view
theorem retD_view {Q : D → DS → Prop} {σ : DS} {r : Rt} (h : Q (viewR r) σ) : retD Q σ r := by cases r <;> exact h
theorem tm_call {Ts : α → List D} {T : ρ → D} {vs : A → List D} {F : A → Pm ρ} {TR : ρ → Rt} (mk : ∀ {t}, DAgs X c es t → DEv X c ec (dCall (SpV (fun a => (vs a).map .val) F TR) n t)) (h : TV X c EX E E' Ts es f) (mkA : α → A) (hT : ∀ p, Ts p = vs (mkA p)) (hl : ∀ p, (Ts p).length = n) (hr : ∀ r, viewR (TR r) = T r) (hx : XE E' EX) :
    TM X c EX E E' T ec (fun ω s k => f ω s fun p s' => bd (F (mkA p)) fun r => k r s') := by
  obtain ⟨t, j, h⟩ := h
  refine ⟨_, mk j, fun ω s σ k κ W Q hE q hk hx' => h ω s σ _ κ W _ hE q (fun p s1 σ1 e1 q1 => args_vals σ1 ⟨own1_vals, by rw [List.length_map]; exact hl p, mkA p, by rw [hT], ?_⟩) hx'⟩
  have q2 := sat_bd q1
  cases e : F (mkA p) with
  | ok r =>
    rw [e] at q2
    show retD Q (back σ1 ((Ts p).map .v) []) (TR r)
    rw [back_vals]
    exact retD_view (by rw [hr]; exact hk r s1 σ1 e1 q2)
  | ex x =>
    rw [e] at q2
    intro ms
    rw [back_vals]
    exact hx' x σ1 (hx.x _ _ e1) q2
  | bad => rw [e] at q2; exact q2
theorem tn_call {Ts : α → List D} {T : ρ → M} {vs : A → List D} {F : A → Pm ρ} (mk : ∀ {t}, DAgs X c es t → DEm X c ec (dCallN (SpV (fun a => (vs a).map .val) F (fun r => .m (T r))) n t)) (h : TV X c EX E E' Ts es f) (mkA : α → A) (hT : ∀ p, Ts p = vs (mkA p)) (hl : ∀ p, (Ts p).length = n) (hx : XE E' EX) :
    TN X c EX E E' T ec (fun ω s k => f ω s fun p s' => bd (F (mkA p)) fun r => k r s') := by
  obtain ⟨t, j, h⟩ := h
  refine ⟨_, mk j, fun ω s σ k κ W Q hE q hk hx' => h ω s σ _ κ W _ hE q (fun p s1 σ1 e1 q1 => args_vals σ1 ⟨own1_vals, by rw [List.length_map]; exact hl p, mkA p, by rw [hT], ?_⟩) hx'⟩
  have q2 := sat_bd q1
  cases e : F (mkA p) with
  | ok r =>
    rw [e] at q2
    show Q (T r) (back σ1 ((Ts p).map .v) [])
    rw [back_vals]
    exact hk r s1 σ1 e1 q2
  | ex x =>
    rw [e] at q2
    intro ms
    rw [back_vals]
    exact hx' x σ1 (hx.x _ _ e1) q2
  | bad => rw [e] at q2; exact q2
theorem tm_call0 {T : ρ → D} {F : Unit → Pm ρ} {TR : ρ → Rt} (h : DEv X c ec (dCall0 (SpV (fun (_ : Unit) => [].map .val) F TR))) (hr : ∀ r, viewR (TR r) = T r) (hx : XE E EX) : TM X c EX E E T ec (fun ω s k => bd (F ()) fun r => k r s) := by
  refine ⟨_, h, fun ω s σ k κ W Q hE q hk hx' => ⟨(), rfl, ?_⟩⟩
  have q2 := sat_bd q
  cases e : F () with
  | ok r =>
    rw [e] at q2
    exact retD_view (by rw [hr]; exact hk r s σ hE q2)
  | ex x =>
    rw [e] at q2
    intro ms
    exact hx' x σ (hx.x _ _ hE) q2
  | bad => rw [e] at q2; exact q2
theorem tm_callK {Ts : α → List D} {T : ρ → D} {vs : A → List D} {F : A → Pm ρ} {TR : ρ → Rt} {pm : List Nat} (mk : ∀ {t}, DKw X c kws t → DEv X c ec (dCallK (SpV (fun a => (vs a).map .val) F TR) n m pm t)) (h : TK X c EX E E' Ts kws f) (mkA : α → A) (hT : ∀ p, permL pm (Ts p) = vs (mkA p)) (hl : ∀ p, (Ts p).length = m) (hl2 : ∀ a, (vs a).length = n) (hr : ∀ r, viewR (TR r) = T r) (hx : XE E' EX) :
    TM X c EX E E' T ec (fun ω s k => f ω s fun p s' => bd (F (mkA p)) fun r => k r s') := by
  obtain ⟨t, j, h⟩ := h
  refine ⟨_, mk j, fun ω s σ k κ W Q hE q hk hx' => h ω s σ _ κ W _ hE q (fun p s1 σ1 e1 q1 => ⟨hl p, by rw [hT]; exact hl2 _, mkA p, by rw [hT], ?_⟩) hx'⟩
  have q2 := sat_bd q1
  cases e : F (mkA p) with
  | ok r =>
    rw [e] at q2
    exact retD_view (by rw [hr]; exact hk r s1 σ1 e1 q2)
  | ex x =>
    rw [e] at q2
    intro ms
    exact hx' x σ1 (hx.x _ _ e1) q2
  | bad => rw [e] at q2; exact q2
/-- f(own, values) -/
theorem tm_callO {Ts : α → List D} {T : ρ → D} {vs : A → List D} {F : μ → A → Pm (ρ × μ)} {TR : ρ → Rt} {get0 : ε → μ} {get : ε' → μ} {put : μ → ε' → ε''} (mk : ∀ {t}, DAgs X c es t → DEv X c ec (dCall (SpO (fun a => (vs a).map .val) F TR TO) n (agS i t))) (h : TV X c EX E E' Ts es f) (o0 : SO E i TO get0) (o : SO E' i TO get) (hs : SS E' EN i (fun m => .ow (TO m)) put) (mkA : α → A) (hT : ∀ p, Ts p = vs (mkA p)) (hl : ∀ p, (Ts p).length + 1 = n) (hr : ∀ r, viewR (TR r) = T r) (hx : XO E' i EX) :
    TM X c EX E EN T ec (fun ω s k => f ω s fun p s' => bd (F (get s') (mkA p)) fun r => k r.1 (put r.2 s')) := by
  obtain ⟨t, j, h⟩ := h
  refine ⟨_, mk j, fun ω s σ k κ W Q hE q hk hx' => ?_⟩
  show atSl σ i _
  refine at_so o0 hE (h ω s σ _ κ W _ hE q (fun p s1 σ1 e1 q1 => ?_) hx')
  show argsOf σ1 (.s i :: (Ts p).map .v) _
  show atSl σ1 i _
  refine at_so o e1 (args_vals σ1 ⟨noOw_vals, by rw [List.length_cons, List.length_map]; exact hl p, get s1, mkA p, by rw [hT], ?_⟩)
  have q2 := sat_bd q1
  cases e : F (get s1) (mkA p) with
  | ok r =>
    rw [e] at q2
    show retD Q (σ1.set i (.ow (TO r.2))) (TR r.1)
    exact retD_view (by rw [hr]; exact hk _ _ _ (hs.p _ _ _ e1) q2)
  | ex x =>
    rw [e] at q2
    intro ms
    cases ms with
    | nil => exact hx' x σ1 (hx.x _ _ (TO (get s1)) e1).1 q2
    | cons m ms => exact hx' x _ (hx.x _ _ m e1).2 q2
  | bad => rw [e] at q2; exact q2
end
end TL
namespace TL
open PySem PySem.Spec PyProof.Rows L2 DL
/-! ### operations on typed values -/
open Classical in
noncomputable def gd {ω : Type} (p : Prop) (k : Pm ω) : Pm ω := if p then k else .bad
theorem gd_ok {ω : Type} {p : Prop} {k : Pm ω} (h : p) : gd p k = k := if_pos h
theorem sat_gd {ω : Type} {κ : Ka ω} {p : Prop} {k : Pm ω} (h : Sat κ (gd p k)) : p ∧ Sat κ k := by
  unfold gd at h
  split at h
  · next hp => exact ⟨hp, h⟩
  · exact h.elim
section
variable {α β γ δ ζ η θ : Type}
abbrev dyn : D → D := fun d => d
abbrev dN : Unit → D := fun _ => .none
abbrev dP0 : Unit → D := fun _ => .tuple []
abbrev dP1 (t : α → D) : α → D := fun p => .tuple [t p]
abbrev dP2 (t : α → D) (u : β → D) : α × β → D := fun p => .tuple [t p.1, u p.2]
abbrev dP3 (t : α → D) (u : β → D) (v : γ → D) : α × β × γ → D := fun p => .tuple [t p.1, u p.2.1, v p.2.2]
abbrev dP4 (t : α → D) (u : β → D) (v : γ → D) (w : δ → D) : α × β × γ × δ → D := fun p => .tuple [t p.1, u p.2.1, v p.2.2.1, w p.2.2.2]
abbrev dP5 (t : α → D) (u : β → D) (v : γ → D) (w : δ → D) (x : ζ → D) : α × β × γ × δ × ζ → D := fun p => .tuple [t p.1, u p.2.1, v p.2.2.1, w p.2.2.2.1, x p.2.2.2.2]
abbrev dP6 (t : α → D) (u : β → D) (v : γ → D) (w : δ → D) (x : ζ → D) (y : η → D) : α × β × γ × δ × ζ × η → D := fun p => .tuple [t p.1, u p.2.1, v p.2.2.1, w p.2.2.2.1, x p.2.2.2.2.1, y p.2.2.2.2.2]
abbrev dP7 (t : α → D) (u : β → D) (v : γ → D) (w : δ → D) (x : ζ → D) (y : η → D) (z : θ → D) : α × β × γ × δ × ζ × η × θ → D := fun p => .tuple [t p.1, u p.2.1, v p.2.2.1, w p.2.2.2.1, x p.2.2.2.2.1, y p.2.2.2.2.2.1, z p.2.2.2.2.2.2]
abbrev mP3 (t : α → D) (u : β → D) (v : γ → D) : α × β × γ → M := fun p => .lst [t p.1, u p.2.1, v p.2.2]
abbrev dQ3 (t : α → D) (u : β → D) (v : γ → D) : α × β × γ → D := fun p => .list [t p.1, u p.2.1, v p.2.2]
/-- None or a value -/
abbrev dOp? (t : α → D) : Option α → D := fun o => match o with
  | none => .none
  | some a => t a
variable {T : α → D} {T1 : α → D} {T2 : β → D} {T3 : γ → D} {od : OD}
theorem opc_addI : OpC addD PyData.int PyData.int PyData.int (fun _ a b k => k (a + b)) := fun ω a b k κ Q q hk => hk _ q
theorem opc_subI : OpC subD PyData.int PyData.int PyData.int (fun _ a b k => k (a - b)) := fun ω a b k κ Q q hk => hk _ q
theorem opc_mulI : OpC mulD PyData.int PyData.int PyData.int (fun _ a b k => gd (MulFit a b) (k (a * b))) := fun ω a b k κ Q q hk => ⟨(sat_gd q).1, hk _ (sat_gd q).2⟩
/-- one factor a short number -/
theorem opc_mulL (n : Int) (hn : MulFit n = fun _ => True) : OpC mulD (fun (_ : Unit) => PyData.int n) PyData.int PyData.int (fun _ _ b k => k (n * b)) := fun ω a b k κ Q q hk => ⟨by rw [hn]; trivial, hk _ q⟩
theorem opc_fdivI : OpC fdivD PyData.int PyData.int PyData.int (fun _ a b k => gd (b ≠ 0 ∧ b.natAbs.log2 < 9000) (k (a.fdiv b))) := fun ω a b k κ Q q hk => ⟨(sat_gd q).1, hk _ (sat_gd q).2⟩
theorem opc_modI : OpC modD PyData.int PyData.int PyData.int (fun _ a b k => gd (b ≠ 0) (k (a.fmod b))) := fun ω a b k κ Q q hk => ⟨(sat_gd q).1, hk _ (sat_gd q).2⟩
theorem opc_powI : OpC powD PyData.int PyData.int PyData.int (fun _ a b k => gd (0 ≤ b ∧ b ≤ 1000000 ∧ a.natAbs < 2 ^ 64) (k (a ^ b.toNat))) := fun ω a b k κ Q q hk => ⟨(sat_gd q).1, hk _ (sat_gd q).2⟩
theorem opc_ltI : OpC ltD PyData.int PyData.int PyData.bool (fun _ a b k => k (decide (a < b))) := fun ω a b k κ Q q hk => hk _ q
theorem opc_leI : OpC leD PyData.int PyData.int PyData.bool (fun _ a b k => k (decide (a ≤ b))) := fun ω a b k κ Q q hk => hk _ q
theorem opc_gtI : OpC gtD PyData.int PyData.int PyData.bool (fun _ a b k => k (decide (b < a))) := fun ω a b k κ Q q hk => hk _ q
theorem opc_geI : OpC geD PyData.int PyData.int PyData.bool (fun _ a b k => k (decide (b ≤ a))) := fun ω a b k κ Q q hk => hk _ q
theorem eqv_int (a b : Int) : PyData.eqv (.int a) (.int b) = decide (a = b) := by
  rw [PyData.eqv]
  by_cases h : a = b
  · subst h; simp
  · rw [decide_eq_false h]; simpa using h
theorem opc_eqI : OpC eqD PyData.int PyData.int PyData.bool (fun _ a b k => k (decide (a = b))) := fun ω a b k κ Q q hk => ⟨rfl, rfl, by rw [eqv_int]; exact hk _ q⟩
theorem opc_neI : OpC neD PyData.int PyData.int PyData.bool (fun _ a b k => k (!decide (a = b))) := fun ω a b k κ Q q hk => ⟨rfl, rfl, by rw [eqv_int]; exact hk _ q⟩
theorem opc_eq : OpC eqD T1 T2 PyData.bool (fun _ a b k => gd (SeqAt.shaped (T1 a) = true ∧ SeqAt.shaped (T2 b) = true) (k (PyData.eqv (T1 a) (T2 b)))) := fun ω a b k κ Q q hk => ⟨(sat_gd q).1.1, (sat_gd q).1.2, hk _ (sat_gd q).2⟩
theorem opc_ne : OpC neD T1 T2 PyData.bool (fun _ a b k => gd (SeqAt.shaped (T1 a) = true ∧ SeqAt.shaped (T2 b) = true) (k (!PyData.eqv (T1 a) (T2 b)))) := fun ω a b k κ Q q hk => ⟨(sat_gd q).1.1, (sat_gd q).1.2, hk _ (sat_gd q).2⟩
theorem opc_is : OpC (bbD fun a b => decide (a = b)) PyData.bool PyData.bool PyData.bool (fun _ a b k => k (decide (a = b))) := fun ω a b k κ Q q hk => hk _ q
theorem opc_isn : OpC (bbD fun a b => !decide (a = b)) PyData.bool PyData.bool PyData.bool (fun _ a b k => k (!decide (a = b))) := fun ω a b k κ Q q hk => hk _ q
theorem opc_addS : OpC addD PyData.str PyData.str PyData.str (fun _ a b k => gd (a.length + b.length ≤ sizeLine) (k (a ++ b))) := fun ω a b k κ Q q hk => ⟨(sat_gd q).1, hk _ (sat_gd q).2⟩
theorem opc_addT {t : α → D} : OpC addD (dT t) (dT t) (dT t) (fun _ a b k => gd (a.length + b.length ≤ 16777216) (k (a ++ b))) := fun ω a b k κ Q q hk => by
  refine ⟨by rw [List.length_map, List.length_map]; exact (sat_gd q).1, ?_⟩
  have := hk _ (sat_gd q).2
  rw [← List.map_append]
  exact this
theorem opc_addL {t : α → D} : OpC addD (dL t) (dL t) (dL t) (fun _ a b k => gd (a.length + b.length ≤ 16777216) (k (a ++ b))) := fun ω a b k κ Q q hk => by
  refine ⟨by rw [List.length_map, List.length_map]; exact (sat_gd q).1, ?_⟩
  have := hk _ (sat_gd q).2
  rw [← List.map_append]
  exact this
theorem opc_catM {t : α → D} : OpCM catM (dL t) (dL t) (mL t) (fun _ a b k => gd (a.length + b.length ≤ 16777216) (k (a ++ b))) := fun ω a b k κ Q q hk => by
  refine ⟨by rw [List.length_map, List.length_map]; exact (sat_gd q).1, ?_⟩
  have := hk _ (sat_gd q).2
  rw [← List.map_append]
  exact this
/-! places -/
def ixP {ω : Type} (xs : List α) (i : Int) (k : α → Pm ω) : Pm ω := match atI xs i with
  | some a => k a
  | none => .bad
theorem atI_map (t : α → D) (xs : List α) (i : Int) : atI (xs.map t) i = (atI xs i).map t := by
  unfold atI
  rw [List.length_map]
  cases ixN xs.length i with
  | none => rfl
  | some j => simp
theorem opc_ixL {t : α → D} : OpC ixD (dL t) PyData.int t (fun _ xs i k => ixP xs i k) := fun ω xs i k κ Q q hk => by
  unfold ixP at q
  dsimp only at q
  show match atI (xs.map t) i with
    | some d => Q d
    | none => False
  rw [atI_map]
  split at q
  · next a e => rw [e]; exact hk a q
  · exact q.elim
theorem opc_ixT {t : α → D} : OpC ixD (dT t) PyData.int t (fun _ xs i k => ixP xs i k) := fun ω xs i k κ Q q hk => by
  unfold ixP at q
  dsimp only at q
  show match atI (xs.map t) i with
    | some d => Q d
    | none => False
  rw [atI_map]
  split at q
  · next a e => rw [e]; exact hk a q
  · exact q.elim
/-- a place in whatever it is -/
def ixY {ω : Type} (d : D) (i : Int) (k : D → Pm ω) : Pm ω := match d with
  | .list xs => ixP xs i k
  | .tuple xs => ixP xs i k
  | _ => .bad
theorem ix_any_of {ω : Type} {κ : Ka ω} {t : α → D} {xs : List α} {i : Int} {k : α → Pm ω} {Q : D → Prop} (q : Sat κ (ixP xs i k)) (hk : ∀ c, Sat κ (k c) → Q (t c)) : match atI (xs.map t) i with
    | some d => Q d
    | none => False := by
  unfold ixP at q
  rw [atI_map]
  split at q
  · next a e => rw [e]; exact hk a q
  · exact q.elim
theorem opc_ixY : OpC ixD dyn PyData.int dyn (fun _ d i k => ixY d i k) := fun ω d i k κ Q q hk => by
  unfold ixY at q
  cases d with
  | list xs => have := ix_any_of (t := dyn) q hk; rw [List.map_id'] at this; exact this
  | tuple xs => have := ix_any_of (t := dyn) q hk; rw [List.map_id'] at this; exact this
  | _ => exact False.elim q
def stP {ω : Type} (xs : List α) (i : Int) (v : α) (k : List α → Pm ω) : Pm ω := match ixN xs.length i with
  | some n => k (xs.set n v)
  | none => .bad
theorem set_list {t : α → D} : SetC (mL t) PyData.int t (fun _ xs i v k => stP xs i v k) := fun ω xs i v k κ Q q hk => by
  unfold stP at q
  dsimp only at q
  show match ixN (xs.map t).length i with
    | some n => Q (.lst ((xs.map t).set n (t v)))
    | none => False
  rw [List.length_map]
  split at q
  · next n e =>
    have := hk _ q
    rw [← List.map_set]
    exact this
  · exact q.elim
/-! built-ins -/
theorem cd_abs : CdC absD PyData.int PyData.int (fun _ a k => k (a.natAbs : Int)) := fun ω a k κ Q q hk => by
  have := hk _ q
  show Q (.int (if a < 0 then -a else a))
  have e : (if a < 0 then -a else a) = (a.natAbs : Int) := by split <;> omega
  rw [e]
  exact this
theorem cd_lenL {t : α → D} : CdC lenD (dL t) PyData.int (fun _ a k => k (a.length : Int)) := fun ω a k κ Q q hk => by
  have := hk _ q
  show Q (.int ((a.map t).length : Int))
  rw [List.length_map]
  exact this
theorem cd_lenT {t : α → D} : CdC lenD (dT t) PyData.int (fun _ a k => k (a.length : Int)) := fun ω a k κ Q q hk => by
  have := hk _ q
  show Q (.int ((a.map t).length : Int))
  rw [List.length_map]
  exact this
theorem cd_lenS : CdC lenD PyData.str PyData.int (fun _ a k => gd (a.length ≤ sizeLine) (k (a.length : Int))) := fun ω a k κ Q q hk => ⟨(sat_gd q).1, hk _ (sat_gd q).2⟩
def lenY {ω : Type} (d : D) (k : Int → Pm ω) : Pm ω := match d with
  | .list xs => k xs.length
  | .tuple xs => k xs.length
  | _ => .bad
theorem cd_lenY : CdC lenD dyn PyData.int (fun _ a k => lenY a k) := fun ω a k κ Q q hk => by
  cases a <;> first | exact hk _ q | exact False.elim q
theorem cd_intB : CdC intCD PyData.bool PyData.int (fun _ a k => k (if a = true then 1 else 0)) := fun ω a k κ Q q hk => hk _ q
theorem cd_intI : CdC intCD PyData.int PyData.int (fun _ a k => k a) := fun ω a k κ Q q hk => hk _ q
theorem cd_tupL {t : α → D} : CdC tupleD (dL t) (dT t) (fun _ a k => k a) := fun ω a k κ Q q hk => hk _ q
theorem cd_tupT {t : α → D} : CdC tupleD (dT t) (dT t) (fun _ a k => k a) := fun ω a k κ Q q hk => hk _ q
theorem cd_listL {t : α → D} : CdCM listM (dL t) (mL t) (fun _ a k => k a) := fun ω a k κ Q q hk => hk _ q
theorem cd_listT {t : α → D} : CdCM listM (dT t) (mL t) (fun _ a k => k a) := fun ω a k κ Q q hk => hk _ q
/-- what can be shown -/
def RepOk (d : D) : Prop := d.showable = true ∧ d.depth ≤ 40 ∧ d.shown.length ≤ sizeLine
theorem cd_repr : CdC reprD T PyData.str (fun _ a k => gd (RepOk (T a)) (k (T a).shown)) := fun ω a k κ Q q hk => ⟨(sat_gd q).1.1, (sat_gd q).1.2.1, (sat_gd q).1.2.2, hk _ (sat_gd q).2⟩
/-! casts -/
def cs {ζ' : Type} {ω : Type} (dec : ζ' → Option α) (d : ζ') (k : α → Pm ω) : Pm ω := match dec d with
  | some a => k a
  | none => .bad
def decI : D → Option Int
  | .int i => some i
  | _ => none
theorem decI_ok : ∀ d a, decI d = some a → d = PyData.int a := fun d a h => by cases d <;> simp_all [decI]
def decB : D → Option Bool
  | .bool i => some i
  | _ => none
theorem decB_ok : ∀ d a, decB d = some a → d = PyData.bool a := fun d a h => by cases d <;> simp_all [decB]
def decS : D → Option Str
  | .str i => some i
  | _ => none
theorem decS_ok : ∀ d a, decS d = some a → d = PyData.str a := fun d a h => by cases d <;> simp_all [decS]
def decL : D → Option (List D)
  | .list i => some i
  | _ => none
theorem decL_ok : ∀ d a, decL d = some a → d = dL dyn a := fun d a h => by cases d <;> simp_all [decL]
def decT : D → Option (List D)
  | .tuple i => some i
  | _ => none
theorem decT_ok : ∀ d a, decT d = some a → d = dT dyn a := fun d a h => by cases d <;> simp_all [decT]
end
section
variable {X : Cx} {c : DC} {EX : DS → Prop} {ε ε1 ε2 ε3 ε' α β γ δ : Type} {E : ε → DS → Prop} {E1 : ε1 → DS → Prop} {E2 : ε2 → DS → Prop} {E' : ε' → DS → Prop}
variable {e a b ec : Expr} {pos : Pos} {j : Nat} {T : α → D} {T2 : β → D} {T3 : γ → D} {TO : α → M}
theorem tm_cast {f : FE ε ε' D} (dec : D → Option α) (hd : ∀ d a, dec d = some a → d = T a) (h : TM X c EX E E' dyn e f) : TM X c EX E E' T e (fun ω s k => f ω s fun d s' => cs dec d fun a => k a s') := by
  obtain ⟨t, j, h⟩ := h
  refine ⟨t, j, fun ω s σ k κ W Q hE q hk hx => h ω s σ _ κ W _ hE q (fun d s' σ' e' h' => ?_) hx⟩
  unfold cs at h'
  split at h'
  · next a ea =>
    have : dyn d = T a := hd d a ea
    rw [this]
    exact hk a s' σ' e' h'
  · exact h'.elim
theorem tm_dyn {f : FE ε ε' α} (h : TM X c EX E E' T e f) : TM X c EX E E' dyn e (fun ω s k => f ω s fun a s' => k (T a) s') := tm_as (T' := dyn) T h fun _ => rfl
/-- a comprehension's list, new -/
theorem tn_of {E2 : ε2 → DS → Prop} {F : FE ε ε2 (List β)} (h : ∃ t : DM, DEm X c ec t ∧ ∀ (ω : Type) (s : ε) (σ : DS) (k : List β → ε2 → Pm ω) (κ : Ka ω) (W : DK) (Q : M → DS → Prop), E s σ → Sat κ (F ω s k) → (∀ a s' σ', E2 s' σ' → Sat κ (k a s') → Q (mL T2 a) σ') → (∀ x σ', EX σ' → κ.X x → W x σ') → t W σ Q) : TN X c EX E E2 (mL T2) ec F := h
/-- .. given to a name -/
theorem ts_lc {ρ β' γ' : Type} {N : Nd ρ β' γ'} {st : Stmt} {i : Nat} {E2 : ε2 → DS → Prop} {EN : ε' → DS → Prop} {F : FE ε ε2 (List β)} {put : List β → ε2 → ε'} (h : ∃ t : DM, DSt X c st (sSetM i t) ∧ ∀ (ω : Type) (s : ε) (σ : DS) (k : List β → ε2 → Pm ω) (κ : Ka ω) (W : DK) (Q : M → DS → Prop), E s σ → Sat κ (F ω s k) → (∀ a s' σ', E2 s' σ' → Sat κ (k a s') → Q (mL T2 a) σ') → (∀ x σ', EX σ' → κ.X x → W x σ') → t W σ Q)
    (hs : SS E2 EN i (fun a => .ow (mL T2 a)) put) : TS X c EX E EN N st (fun ω s kn _ _ _ => F ω s fun a s1 => kn (put a s1)) := by
  obtain ⟨t, j, h⟩ := h
  exact ⟨_, j, fun ω s σ kn kr kb kc κ Dn hE q d => h ω s σ _ κ Dn.xn _ hE q (fun a s' σ' e' q' => d.nx _ _ (hs.p _ _ _ e') q') d.xn⟩
/-- tests that never fail, at once -/
theorem tw_andT {rest : List Expr} {f : FE ε ε Bool} {g : FE ε ε Bool} (va vb : ε → Bool) (h : TB X c EX E E a f) (h2 : TW X c EX E E (.BoolOp .And (b :: rest) pos) g) (ha : ∀ ω s (k : Bool → ε → Pm ω), f ω s k = k (va s) s) (hb : ∀ ω s (k : Bool → ε → Pm ω), g ω s k = k (vb s) s) : TW X c EX E E (.BoolOp .And (a :: b :: rest) pos) (fun ω s k => k (va s && vb s) s) := by
  obtain ⟨t, j, h3⟩ := tw_and h h2
  refine ⟨t, j, fun ω s σ k κ W Q hE q hk hx => h3 ω s σ k κ W Q hE ?_ hk hx⟩
  dsimp only at q ⊢
  rw [ha, hb]
  cases e : va s with
  | true => rw [e] at q; exact q
  | false => rw [e] at q; exact q
theorem tw_orT {rest : List Expr} {f : FE ε ε Bool} {g : FE ε ε Bool} (va vb : ε → Bool) (h : TB X c EX E E a f) (h2 : TW X c EX E E (.BoolOp .Or (b :: rest) pos) g) (ha : ∀ ω s (k : Bool → ε → Pm ω), f ω s k = k (va s) s) (hb : ∀ ω s (k : Bool → ε → Pm ω), g ω s k = k (vb s) s) : TW X c EX E E (.BoolOp .Or (a :: b :: rest) pos) (fun ω s k => k (va s || vb s) s) := by
  obtain ⟨t, j, h3⟩ := tw_or h h2
  refine ⟨t, j, fun ω s σ k κ W Q hE q hk hx => h3 ω s σ k κ W Q hE ?_ hk hx⟩
  dsimp only at q ⊢
  rw [ha, hb]
  cases e : va s with
  | true => rw [e] at q; exact q
  | false => rw [e] at q; exact q
end
end TL
namespace TL
open PySem PySem.Spec PyProof.Rows L2 DL
/-- a value given a name -/
abbrev lt {α ω : Type} (v : α) (k : α → Pm ω) : Pm ω := k v
section
variable {X : Cx} {c : DC} {EX : DS → Prop} {ε ε1 ε2 ε3 ε' α β γ δ : Type} {E : ε → DS → Prop} {E1 : ε1 → DS → Prop} {E2 : ε2 → DS → Prop} {E' : ε' → DS → Prop}
variable {e a b ec : Expr} {pos : Pos} {j : Nat} {T : α → D} {T1 : α → D} {T2 : β → D} {T3 : γ → D} {TO : α → M} {od : OD} {n m v : Int}
/-- the right one, the left one a written number -/
def OpR (od : OD) (T1 : α → D) (n : Int) (T3 : γ → D) (g : (ω : Type) → α → (γ → Pm ω) → Pm ω) : Prop :=
  ∀ (ω : Type) (a : α) (k : γ → Pm ω) (κ : Ka ω) (Q : D → Prop), Sat κ (g ω a k) → (∀ c, Sat κ (k c) → Q (T3 c)) → od (T1 a) (.int n) Q
def OpL (od : OD) (T1 : α → D) (n : Int) (T3 : γ → D) (g : (ω : Type) → α → (γ → Pm ω) → Pm ω) : Prop :=
  ∀ (ω : Type) (a : α) (k : γ → Pm ω) (κ : Ka ω) (Q : D → Prop), Sat κ (g ω a k) → (∀ c, Sat κ (k c) → Q (T3 c)) → od (.int n) (T1 a) Q
theorem opr_mod (h : decide (n ≠ 0) = true) : OpR modD PyData.int n PyData.int (fun _ a k => k (a.fmod n)) := fun ω a k κ Q q hk => ⟨of_decide_eq_true h, hk _ q⟩
theorem opr_fdiv (h : decide (n ≠ 0 ∧ n.natAbs.log2 < 9000) = true) : OpR fdivD PyData.int n PyData.int (fun _ a k => k (a.fdiv n)) := fun ω a k κ Q q hk => ⟨of_decide_eq_true h, hk _ q⟩
theorem opr_mul (h : decide (n.natAbs < 18446744073709551616) = true) : OpR mulD PyData.int n PyData.int (fun _ a k => k (a * n)) := fun ω a k κ Q q hk => ⟨mulOk_r (of_decide_eq_true h), hk _ q⟩
theorem opl_mul (h : decide (n.natAbs < 18446744073709551616) = true) : OpL mulD PyData.int n PyData.int (fun _ a k => k (n * a)) := fun ω a k κ Q q hk => ⟨mulOk_l (of_decide_eq_true h), hk _ q⟩
theorem opr_pow (h : decide (0 ≤ n ∧ n ≤ 1000000) = true) : OpR powD PyData.int n PyData.int (fun _ a k => gd (a.natAbs < 18446744073709551616) (k (a ^ n.toNat))) := fun ω a k κ Q q hk => by
  have hh : 0 ≤ n ∧ n ≤ 1000000 := of_decide_eq_true h
  exact ⟨⟨hh.1, hh.2, (sat_gd q).1⟩, hk _ (sat_gd q).2⟩
theorem tm_binR {op : Operator} {f : FE ε ε' α} {g : (ω : Type) → α → (γ → Pm ω) → Pm ω} (ho : OpD X (binaryOp op) od) (hg : OpR od T1 n T3 g) (ha : TR X c EX E E' T1 a f) (hb : DEv X c b (dC (.int n))) : TM X c EX E E' T3 (.BinOp a op b pos) (fun ω s k => f ω s fun x s1 => g ω x fun z => k z s1) := by
  obtain ⟨ta, ja, ha⟩ := ha
  exact ⟨_, dev_bin ho ja (de_val hb), fun ω s σ k κ W Q hE q hk hx => ha ω s σ _ κ W _ hE q (fun x r s1 σ1 e1 q1 hv => by
    dsimp only [dVal, dC]
    exact vw_view hv (vw_view rfl (hg ω x _ κ _ q1 fun z q2 => hk _ _ _ e1 q2))) hx⟩
theorem tm_binL {op : Operator} {f : FE ε ε' α} {g : (ω : Type) → α → (γ → Pm ω) → Pm ω} (ho : OpD X (binaryOp op) od) (hg : OpL od T1 n T3 g) (ha : DEv X c a (dC (.int n))) (hb : TR X c EX E E' T1 b f) : TM X c EX E E' T3 (.BinOp a op b pos) (fun ω s k => f ω s fun x s1 => g ω x fun z => k z s1) := by
  obtain ⟨tb, jb, hb⟩ := hb
  exact ⟨_, dev_bin ho (de_val ha) jb, fun ω s σ k κ W Q hE q hk hx => hb ω s σ _ κ W _ hE q (fun x r s1 σ1 e1 q1 hv => vw_view (r := .d (.int n)) rfl (vw_view hv (hg ω x _ κ _ q1 fun z q2 => hk _ _ _ e1 q2))) hx⟩
/-- a power of written numbers -/
theorem tm_powc (v : Int) (ha : DEv X c a (dC (.int n))) (hb : DEv X c b (dC (.int m))) (hc : decide (0 ≤ m ∧ m ≤ 1000000 ∧ n.natAbs < 2 ^ 64) = true) (hv : n ^ m.toNat = v) : TM X c EX E E PyData.int (.BinOp a .Pow b pos) (fun _ s k => k v s) :=
  ⟨_, dev_bin op_powD (de_val ha) (de_val hb), fun ω s σ k κ W Q hE q hk hx => by
    show (0 ≤ m ∧ m ≤ 1000000 ∧ n.natAbs < 2 ^ 64) ∧ Q (.int (n ^ m.toNat)) σ
    refine ⟨of_decide_eq_true hc, ?_⟩
    show Q (.int (n ^ m.toNat)) σ
    rw [hv]
    exact hk _ _ _ hE q⟩
/-! texts, alike or not -/
def eqSD (f : Bool → Bool) : OD
  | .str x, .str y, k => k (.bool (f (decide (x = y))))
  | _, _, _ => False
theorem vstr {x y : Str} : decide (V.str x = V.str y) = decide (x = y) := decide_eq_decide.mpr ⟨fun h => by cases h; rfl, fun h => by rw [h]⟩
theorem op_eqSD : OpD X (compareOp .Eq) (eqSD fun b => b) := ⟨_, op_eq, fun x y v u H Qv Q rx ry q k => by
  unfold eqSD at q
  split at q
  · rw [rx.str, ry.str]
    refine ⟨rfl, ?_⟩
    rw [vstr]
    exact k _ _ _ (.here (.bl _)) q
  · exact q.elim⟩
theorem op_neSD : OpD X (compareOp .NotEq) (eqSD fun b => !b) := ⟨_, op_ne, fun x y v u H Qv Q rx ry q k => by
  unfold eqSD at q
  split at q
  · rw [rx.str, ry.str]
    refine ⟨rfl, ?_⟩
    rw [vstr]
    exact k _ _ _ (.here (.bl _)) q
  · exact q.elim⟩
theorem opc_eqS : OpC (eqSD fun b => b) PyData.str PyData.str PyData.bool (fun _ a b k => k (decide (a = b))) := fun ω a b k κ Q q hk => hk _ q
theorem opc_neS : OpC (eqSD fun b => !b) PyData.str PyData.str PyData.bool (fun _ a b k => k (!decide (a = b))) := fun ω a b k κ Q q hk => hk _ q
/-- dicts, as whatever -/
theorem tm_lockD {t : DM} (h : DEm X c e t) (v : D) (hq : ∀ {W : DK} {σ : DS} (Q : M → DS → Prop), (∀ m, m.view = v → Q m σ) → t W σ Q) : TM X c EX E E dyn e (fun _ s k => k v s) :=
  ⟨_, dev_lock h, fun ω s σ k κ W Q hE q hk hx => hq _ fun m hm => by rw [hm]; exact hk _ _ _ hE q⟩
theorem tm_dct1 {f : FE ε ε1 Int} {g : FE ε1 ε2 Int} (hk : TM X c EX E E1 PyData.int a f) (hv : TM X c EX E1 E2 PyData.int b g) : TM X c EX E E2 dyn (.Dict [some a] [b] pos) (fun ω s k => f ω s fun x s1 => g ω s1 fun y s2 => k (.dict [(.int x, .int y)]) s2) := by
  obtain ⟨t, j, hk⟩ := hk
  obtain ⟨u, j2, hv⟩ := hv
  exact ⟨_, dev_lock (dem_dct (dp_cons j j2 dp_nil) (h15 := Nat.le_of_ble_eq_true rfl)), fun ω s σ k κ W Q hE q hq hx => hk ω s σ _ κ W _ hE q (fun x s1 σ1 e1 q1 => hv ω s1 σ1 _ κ W _ e1 q1 (fun y s2 σ2 e2 q2 => ⟨by show 1 ≤ 15; decide, hq _ _ _ e2 q2⟩) hx) hx⟩
end
end TL
namespace TL
open PySem PySem.Spec PyProof.Rows L2 DL
/-! ### a law's end -/
/-- the def st stands under the name x in what the top has written -/
structure FnIn (K : PySem.W.Frag) (x : Str) (st : Stmt) : Prop where
  ex : ∃ (f : Addr) (fd : FuncData), L2.Fun K x x st f fd ∧ PySem.W.nsIn K mainGlobals x = some (some (.ref f))
theorem fnIn_mk {K : PySem.W.Frag} {x : Str} {st : Stmt} {f : Addr} {od an : Option Addr} {sl : Array (Option Value)} {oc kV dc pm cd ct : Value} (a : PySem.W.nsIn K mainGlobals x = some (some (.ref f)))
    (l : K.lookup f = some ⟨oc, od, .func (PySem.W.fnOf x x (defArgs st) (defBody st) (defScope st) .none kV dc pm an cd ct), sl⟩) (c : PySem.W.codeIn K cd x = true) (k : PySem.W.keepIn K (.ref f) = true) : FnIn K x st :=
  ⟨⟨f, _, fun_mk l c k, a⟩⟩
theorem FnIn.fn {K : PySem.W.Frag} {x : Str} {st : Stmt} {h : Heap} {mg : Str → Option Value} (I : FnIn K x st) (X : K.In h) (G : h.Ns mainGlobals mg) : ∃ (f : Addr) (fd : FuncData), L2.Fun K x x st f fd ∧ mg x = some (.ref f) := by
  obtain ⟨f, fd, F, a⟩ := I.ex
  exact ⟨f, fd, F, PySem.W.mg_of X G a⟩
theorem law_fin {P : Program} {w : World} {K : PySem.W.Frag} {mg : Str → Option Value} {k : Nat} {x p : Str} {st : Stmt} {S : DSp} {f fa : Addr} {fd : FuncData} (F : L2.Fun K x x st f fd) (hm : mg x = some (.ref f)) (hfa : mg x = some (.ref fa))
    (hb : ∀ (kV doc pm : Value) (an : Option Addr) (cdv ct : Value) (us : List Value), us.length = [p].length → bindArgs (PySem.W.fnOf x x (defArgs st) (defBody st) (defScope st) .none kV doc pm an cdv ct) ⟨us, []⟩ = pure ([p].zip us))
    (C : ∀ base : Heap, K.In base → base.Ns mainGlobals mg → BaseG P base → Cal P w K mg base k x st [p] S) :
    ∃ fd : FuncData, (∀ (s : Shared) (u : Value), BindsTo s fd ⟨[u], []⟩ [(p, u)]) ∧ ∀ base : Heap, K.In base → base.Ns mainGlobals mg → BaseG P base → GFn P w K mg base k fa fd [p] S := by
  have e := hm.symm.trans hfa
  cases e
  refine ⟨fd, fun s u => ?_, fun base h1 h2 h3 => ?_⟩
  · obtain ⟨oc, od, kV, doc, pm, an, cdv, ct, osl, rfl, lk, hcd⟩ := F.ex
    exact .of_eq (hb kV doc pm an cdv ct [u] rfl)
  · obtain ⟨f', fd', F', hm', G, _⟩ := (C base h1 h2 h3).ex
    have e2 := hm.symm.trans hm'
    cases e2
    obtain ⟨oc, od, kV, doc, pm, an, cdv, ct, osl, e3, lk, hcd⟩ := F.ex
    obtain ⟨oc', od', kV', doc', pm', an', cdv', ct', osl', e3', lk', hcd'⟩ := F'.ex
    rw [lk] at lk'
    cases lk'
    exact G
/-- the law holds, by its function -/
theorem law_sp {fn : List Int → Pm Bool} {n : Nat} (h : ∀ ns : List Int, ns.length ≤ n → fn ns = .ok true) (ns : List Int) (hn : ns.length ≤ n) :
    SpV (fun a => ((fun (a : List Int) => [(dL PyData.int) a]) a).map .val) fn (fun r => .d (PyData.bool r)) [.val (.list (ns.map .int))] (fun r _ => r = .d (.bool true)) fun _ _ => False :=
  ⟨ns, rfl, by rw [h ns hn]; rfl⟩
end TL
namespace TL
open PySem PySem.Spec PyProof.Rows L2 DL
/-! ### casts -/
section
variable {α β γ δ : Type}
/-- a list's or tuple's items -/
def decQ : D → Option (List D)
  | .list xs => some xs
  | .tuple xs => some xs
  | _ => none
def decP2 (da : D → Option α) (db : D → Option β) : D → Option (α × β)
  | .tuple [x, y] => (da x).bind fun a => (db y).map fun b => (a, b)
  | _ => none
theorem decP2_ok {da : D → Option α} {db : D → Option β} {ta : α → D} {tb : β → D} (ha : ∀ d a, da d = some a → d = ta a) (hb : ∀ d a, db d = some a → d = tb a) : ∀ d p, decP2 da db d = some p → d = dP2 ta tb p := fun d p h => by
  unfold decP2 at h
  split at h
  · next x y =>
    cases e1 : da x with
    | none => rw [e1] at h; cases h
    | some a =>
      cases e2 : db y with
      | none => rw [e1, e2] at h; cases h
      | some b =>
        rw [e1, e2] at h
        cases h
        rw [ha _ _ e1, hb _ _ e2]
  · cases h
def decO : Option α → Option α := fun o => o
abbrev decSh : D → Option (Int × Int) := decP2 decI decI
theorem decSh_ok : ∀ d p, decSh d = some p → d = dP2 PyData.int PyData.int p := decP2_ok decI_ok decI_ok
def dec3 : List α → Option (α × α × α)
  | [a, b, c] => some (a, b, c)
  | _ => none
def dec2 : List α → Option (α × α)
  | [a, b] => some (a, b)
  | _ => none
abbrev dQ2 (t : α → D) (u : β → D) : α × β → D := fun p => .list [t p.1, u p.2]
theorem dec3_ok {t : α → D} : ∀ a b, dec3 a = some b → dL t a = dQ3 t t t b := fun a b h => by
  unfold dec3 at h
  split at h
  · cases h; rfl
  · cases h
theorem dec2_ok {t : α → D} : ∀ a b, dec2 a = some b → dL t a = dQ2 t t b := fun a b h => by
  unfold dec2 at h
  split at h
  · cases h; rfl
  · cases h
end
section
variable {X : Cx} {c : DC} {EX : DS → Prop} {ε ε1 ε2 ε' ε'' α β γ ρ : Type} {E : ε → DS → Prop} {E1 : ε1 → DS → Prop} {E2 : ε2 → DS → Prop} {E' : ε' → DS → Prop}
variable {e a b ec tg : Expr} {es : List Expr} {pos : Pos} {j : Nat} {T : α → D} {T' : β → D}
theorem tm_part {f : FE ε ε' α} (dec : α → Option β) (hd : ∀ a b, dec a = some b → T a = T' b) (h : TM X c EX E E' T e f) : TM X c EX E E' T' e (fun ω s k => f ω s fun d s' => cs dec d fun a => k a s') := by
  obtain ⟨t, j, h⟩ := h
  refine ⟨t, j, fun ω s σ k κ W Q hE q hk hx => h ω s σ _ κ W _ hE q (fun d s' σ' e' h' => ?_) hx⟩
  unfold cs at h'
  split at h'
  · next a ea =>
    rw [hd d a ea]
    exact hk a s' σ' e' h'
  · exact h'.elim
theorem map_dyn (t : α → D) (xs : List α) : (xs.map t).map dyn = xs.map t := List.map_id' _
theorem tm_dynL {t : α → D} {f : FE ε ε' (List α)} (h : TM X c EX E E' (dL t) e f) : TM X c EX E E' (dL dyn) e (fun ω s k => f ω s fun a s' => k (a.map t) s') := tm_as (T' := dL dyn) (fun a => a.map t) h fun a => by show PyData.list _ = PyData.list _; rw [map_dyn]
theorem tm_dynT {t : α → D} {f : FE ε ε' (List α)} (h : TM X c EX E E' (dT t) e f) : TM X c EX E E' (dT dyn) e (fun ω s k => f ω s fun a s' => k (a.map t) s') := tm_as (T' := dT dyn) (fun a => a.map t) h fun a => by show PyData.tuple _ = PyData.tuple _; rw [map_dyn]
theorem decO_ok {t : α → D} : ∀ (a : Option α) b, decO a = some b → (dOp? t) a = t b := fun a b h => by unfold decO at h; subst h; rfl
/-- the items of whatever it is -/
theorem ti_dyn {f : FE ε ε' D} (h : TM X c EX E E' dyn e f) : TI X c EX E E' dyn tg e (fun ω s k => f ω s fun d s' => cs decQ d fun xs => k xs s') := by
  obtain ⟨t, j, h⟩ := h
  refine ⟨_, di_seq j, fun ω s σ k κ W Q hE q hk hx => h ω s σ _ κ W _ hE q (fun d s' σ' e' h' => ?_) hx⟩
  unfold cs at h'
  split at h'
  · next a ea =>
    have hq := hk a s' σ' e' h'
    rw [List.map_id'] at hq
    cases d <;> simp [decQ] at ea
    · subst ea; exact hq
    · subst ea; exact hq
  · exact h'.elim
def decAll (dec : D → Option α) : List D → Option (List α)
  | [] => some []
  | d :: ds => (dec d).bind fun a => (decAll dec ds).map fun r => a :: r
theorem decAll_ok {dec : D → Option α} {t : α → D} (hd : ∀ d a, dec d = some a → d = t a) : ∀ (ds : List D) (as : List α), decAll dec ds = some as → ds = as.map t
  | [], as, h => by cases h; rfl
  | d :: ds, as, h => by
    unfold decAll at h
    cases e1 : dec d with
    | none => rw [e1] at h; cases h
    | some a =>
      cases e2 : decAll dec ds with
      | none => rw [e1, e2] at h; cases h
      | some r =>
        rw [e1, e2] at h
        cases h
        rw [List.map_cons, hd _ _ e1, decAll_ok hd ds r e2]
theorem decAll_map {dec : D → Option α} {t : α → D} (h : ∀ a, dec (t a) = some a) : ∀ as : List α, decAll dec (as.map t) = some as
  | [] => rfl
  | a :: as => by rw [List.map_cons, decAll, h, decAll_map h as]; rfl
theorem ti_cast {f : FE ε ε' (List D)} {t : α → D} (dec : D → Option α) (hd : ∀ d a, dec d = some a → d = t a) (h : TI X c EX E E' dyn tg e f) : TI X c EX E E' t tg e (fun ω s k => f ω s fun xs s' => cs (decAll dec) xs fun ys => k ys s') := by
  obtain ⟨u, j, h⟩ := h
  refine ⟨u, j, fun ω s σ k κ W Q hE q hk hx => h ω s σ _ κ W _ hE q (fun xs s' σ' e' h' => ?_) hx⟩
  unfold cs at h'
  split at h'
  · next a ea =>
    have hq := hk a s' σ' e' h'
    rw [← decAll_ok hd xs a ea] at hq
    have e2 : xs.map dyn = xs := List.map_id' _
    rw [e2]
    exact hq
  · exact h'.elim
theorem tg_lst {put : α → ε → ε'} {T : β → D} {Ts : α → List D} {is : List Nat} {k m : Nat} {p : Pos} (dec : β → α) (hc : X.calm = true) (h : TGs X c E E' Ts es is put) (hT : ∀ b, T b = .list (Ts (dec b))) (hl : ∀ a, (Ts a).length = m) (hn : (assignEach es X.env).length = m := by rfl) (hst : (assignEach es X.env).findIdx? (·.1) = none := by rfl) :
    TG X c E E' T (.Tuple es k p) is (fun b s => put (dec b) s) := by
  obtain ⟨g, j, h⟩ := h
  exact ⟨_, dg_lst hc j hn hst, fun b s σ Q hE q => by rw [hT]; exact ⟨hl _, h _ s σ Q hE q⟩⟩
theorem cd_all : CdC allD (dL PyData.bool) PyData.bool (fun _ a k => k (a.all id)) := fun ω a k κ Q q hk => ⟨a, rfl, hk _ q⟩
theorem cd_any : CdC anyD (dL PyData.bool) PyData.bool (fun _ a k => k (a.any id)) := fun ω a k κ Q q hk => ⟨a, rfl, hk _ q⟩
theorem cd_sum : CdC sumD (dL PyData.int) PyData.int (fun _ a k => k a.sum) := fun ω a k κ Q q hk => ⟨a, rfl, hk _ q⟩
end
/-! ### defs with defaults -/
section
variable {P : Program} {w : World} {K : PySem.W.Frag} {mg : Str → Option Value} {base : Heap} {k : Nat} {x : Str} {st : Stmt} {N ps : List Str} {f : Addr} {fd : FuncData} {A ρ μ ε0 ε'' : Type} {E0 : ε0 → DS → Prop} {EN : ε'' → DS → Prop} {dvs : List V} {kws : List (Str × V)}
abbrev FunDs (K : PySem.W.Frag) (x : Str) (st : Stmt) (dvs : List V) (kws : List (Str × V)) (f : Addr) (fd : FuncData) : Prop := FunD K x x (defArgs st) (defBody st) (defScope st) dvs kws f fd
theorem t_calD (F : FunDs K x st dvs kws f fd) (hm : mg x = some (.ref f)) (Sc : FnScope N ps (defScope st)) (vs : A → List D) (hv : ∀ a, (vs a).length = ps.length) (T : ρ → D) (fn : A → Pm ρ) (init : A → ε0) (h0 : ∀ a, E0 (init a) (slots0 N.length ((vs a).map .val))) {g : FS ε0 ε'' ρ Unit Unit}
    (der : DerH P w K mg base k x st N ps f (EXv ps.length) E0 EN (NdV T ps.length) g) (wN : ε'' → Pm ρ) (hN : ∀ s σ κ, EN s σ → Sat κ (wN s) → ∃ r, κ.P r ∧ T r = .none ∧ ps.length ≤ σ.length) (hf : ∀ a, g ρ (init a) wN .ok nb nb = fn a) :
    CalD P w K mg base (k + 1) x st ps dvs kws (SpV (fun a => (vs a).map .val) fn (fun r => .d (T r))) := by
  refine cald_of F hm Sc fun cdv A outer s H E c hr hp => ?_
  obtain ⟨t, j, h⟩ := der cdv A outer s H E c hr hp
  refine ⟨t, j, ?_⟩
  rintro as Q Ex - ⟨a, rfl, q⟩
  rw [← hf] at q
  refine h _ _ _ _ _ _ _ _ _ (h0 a) q ⟨fun s' σ' e' q' => ?_, fun r d σ' e' q' => ?_, fun _ _ _ z => z.elim, fun _ _ _ _ z => z.elim, fun _ _ z => z.elim, fun _ _ z => z.elim, fun x σ' e' q' => ⟨[], outM_vals (by rw [hv]; exact e'), q' []⟩⟩
  · obtain ⟨r, h1, h2, h3⟩ := hN s' σ' _ e' q'
    refine ⟨[], outM_vals (by rw [hv]; exact h3), ?_⟩
    rw [← h2]
    exact h1
  · obtain ⟨rfl, h3⟩ := e'
    exact ⟨[], outM_vals (by rw [hv]; exact h3), q'⟩
structure FnInD (K : PySem.W.Frag) (x : Str) (st : Stmt) (dvs : List V) (kws : List (Str × V)) : Prop where
  ex : ∃ (f : Addr) (fd : FuncData), FunDs K x st dvs kws f fd ∧ PySem.W.nsIn K mainGlobals x = some (some (.ref f))
theorem FnInD.fn {h : Heap} (I : FnInD K x st dvs kws) (X : K.In h) (G : h.Ns mainGlobals mg) : ∃ (f : Addr) (fd : FuncData), FunDs K x st dvs kws f fd ∧ mg x = some (.ref f) := by
  obtain ⟨f, fd, F, a⟩ := I.ex
  exact ⟨f, fd, F, PySem.W.mg_of X G a⟩
theorem fnInD_mk1 {od an : Option Addr} {sl : Array (Option Value)} {oc kV dc pm cd ct : Value} {T : Addr} {o : Obj} {arr : Array Value} {n : Nat} (a : PySem.W.nsIn K mainGlobals x = some (some (.ref f)))
    (l : K.lookup f = some ⟨oc, od, .func (PySem.W.fnOf x x (defArgs st) (defBody st) (defScope st) (.ref T) kV dc pm an cd ct), sl⟩) (c : PySem.W.codeIn K cd x = true) (k : PySem.W.keepIn K (.ref f) = true) (lT : K.lookup T = some o) (hs : o.data = .seq arr n) (hv : Vals dvs arr.toList) (hd : dvs ≠ []) : FnInD K x st dvs [] :=
  ⟨⟨f, _, ⟨⟨oc, od, .ref T, kV, dc, pm, an, cd, ct, sl, rfl, l, c, .inr ⟨hd, T, o, arr.toList, n, rfl, lT, by rw [Array.toArray_toList]; exact hs, hv⟩, .inl rfl⟩, k⟩, a⟩⟩
end
section
variable {X : Cx} {c : DC} {EX : DS → Prop} {ε ε1 ε2 ε3 ε' ε'' α β γ δ ρ μ A : Type} {E : ε → DS → Prop} {E1 : ε1 → DS → Prop} {E2 : ε2 → DS → Prop} {E' : ε' → DS → Prop}
variable {e a b ec : Expr} {es : List Expr} {pos : Pos} {i j n m np : Nat} {kws : List Keyword} {f : FE ε ε' α} {pm : List Nat} {dds : List D}
theorem call_out {E' : ε' → DS → Prop} {T : ρ → D} {F : Pm ρ} {TR : ρ → Rt} {s1 : ε'} {σ1 : DS} {ω : Type} {k : ρ → ε' → Pm ω} {κ : Ka ω} {W : DK} {Q : D → DS → Prop} (hr : ∀ r, viewR (TR r) = T r) (hx : XE E' EX) (e1 : E' s1 σ1) (q1 : Sat κ (bd F fun r => k r s1))
    (hk : ∀ a s' σ', E' s' σ' → Sat κ (k a s') → Q (T a) σ') (hx' : ∀ x σ', EX σ' → κ.X x → W x σ') : Sat ⟨fun r => retD Q σ1 (TR r), fun x => ∀ _ : List M, W x σ1⟩ F := by
  have q2 := sat_bd q1
  cases F with
  | ok r => exact retD_view (by rw [hr]; exact hk r s1 σ1 e1 q2)
  | ex x => intro ms; exact hx' x σ1 (hx.x _ _ e1) q2
  | bad => exact q2
theorem tm_callP {Ts : α → List D} {T : ρ → D} {vs : A → List D} {F : A → Pm ρ} {TR : ρ → Rt} (mk : ∀ {t}, DAs X c es t → DEv X c ec (dCallX (SpV (fun a => (vs a).map .val) F TR) np n 0 pm dds t daNil)) (h : TA X c EX E E' Ts es f) (mkA : α → A) (hT : ∀ p, permL pm (Ts p ++ [] ++ dds) = vs (mkA p)) (hl : ∀ p, (Ts p).length = n) (hl2 : ∀ a, (vs a).length = np) (hr : ∀ r, viewR (TR r) = T r) (hx : XE E' EX) :
    TM X c EX E E' T ec (fun ω s k => f ω s fun p s' => bd (F (mkA p)) fun r => k r s') := by
  obtain ⟨t, j, h⟩ := h
  exact ⟨_, mk j, fun ω s σ k κ W Q hE q hk hx' => h ω s σ _ κ W _ hE q (fun p s1 σ1 e1 q1 => ⟨hl p, rfl, by rw [hT]; exact hl2 _, mkA p, by rw [hT], call_out hr hx e1 q1 hk hx'⟩) hx'⟩
theorem tm_callQ {Ts : α → List D} {T : ρ → D} {vs : A → List D} {F : A → Pm ρ} {TR : ρ → Rt} (mk : ∀ {t}, DKw X c kws t → DEv X c ec (dCallX (SpV (fun a => (vs a).map .val) F TR) np 0 m pm dds daNil t)) (h : TK X c EX E E' Ts kws f) (mkA : α → A) (hT : ∀ p, permL pm ([] ++ Ts p ++ dds) = vs (mkA p)) (hl : ∀ p, (Ts p).length = m) (hl2 : ∀ a, (vs a).length = np) (hr : ∀ r, viewR (TR r) = T r) (hx : XE E' EX) :
    TM X c EX E E' T ec (fun ω s k => f ω s fun p s' => bd (F (mkA p)) fun r => k r s') := by
  obtain ⟨t, j, h⟩ := h
  exact ⟨_, mk j, fun ω s σ k κ W Q hE q hk hx' => h ω s σ _ κ W _ hE q (fun p s1 σ1 e1 q1 => ⟨rfl, hl p, by rw [hT]; exact hl2 _, mkA p, by rw [hT], call_out hr hx e1 q1 hk hx'⟩) hx'⟩
theorem tm_callN {Ts : α → List D} {Us : β → List D} {T : ρ → D} {vs : A → List D} {F : A → Pm ρ} {TR : ρ → Rt} {f : FE ε ε1 α} {g : FE ε1 ε2 β} (mk : ∀ {t u}, DAs X c es t → DKw X c kws u → DEv X c ec (dCallX (SpV (fun a => (vs a).map .val) F TR) np n m pm dds t u)) (h : TA X c EX E E1 Ts es f) (h2 : TK X c EX E1 E2 Us kws g) (mkA : α → β → A) (hT : ∀ p q, permL pm (Ts p ++ Us q ++ dds) = vs (mkA p q)) (hl : ∀ p, (Ts p).length = n) (hm : ∀ p, (Us p).length = m) (hl2 : ∀ a, (vs a).length = np) (hr : ∀ r, viewR (TR r) = T r) (hx : XE E2 EX) :
    TM X c EX E E2 T ec (fun ω s k => f ω s fun p s1 => g ω s1 fun q s' => bd (F (mkA p q)) fun r => k r s') := by
  obtain ⟨t, j, h⟩ := h
  obtain ⟨u, j2, h2⟩ := h2
  exact ⟨_, mk j j2, fun ω s σ k κ W Q hE q hk hx' => h ω s σ _ κ W _ hE q (fun p s1 σ1 e1 q1 => h2 ω s1 σ1 _ κ W _ e1 q1 (fun r s2 σ2 e2 q2 => ⟨hl p, hm r, by rw [hT]; exact hl2 _, mkA p r, by rw [hT], call_out hr hx e2 q2 hk hx'⟩) hx') hx'⟩
end
end TL
namespace TL
open PySem PySem.Spec PyProof.Rows L2 DL
section
variable {X : Cx} {c : DC} {EX : DS → Prop} {ε ε1 ε2 ε' α β γ : Type} {E : ε → DS → Prop} {E1 : ε1 → DS → Prop} {E2 : ε2 → DS → Prop} {E' : ε' → DS → Prop}
variable {e a b o ec : Expr} {es : List Expr} {pos : Pos} {i j : Nat} {T : α → D} {T1 : α → D} {t : β → D}
/-- the sizes that `in` and `count` ask for -/
def InOk (d l : D) : Prop := (d.depth ≤ 60 ∧ SeqAt.shaped d = true) ∧ SeqAt.shaped l = true
theorem opc_inL {f : Bool → Bool} : OpC (inD f) T1 (dL t) PyData.bool (fun _ a b k => gd (InOk (T1 a) (dL t b)) (k (f ((b.map t).any fun z => PyData.eqv z (T1 a))))) := fun ω a b k κ Q q hk => ⟨(sat_gd q).1.1, (sat_gd q).1.2, hk _ (sat_gd q).2⟩
theorem opc_inT {f : Bool → Bool} : OpC (inD f) T1 (dT t) PyData.bool (fun _ a b k => gd (InOk (T1 a) (dT t b)) (k (f ((b.map t).any fun z => PyData.eqv z (T1 a))))) := fun ω a b k κ Q q hk => ⟨(sat_gd q).1.1, (sat_gd q).1.2, hk _ (sat_gd q).2⟩
theorem tn_rev {n : Nat} {p1 p2 p3 : Pos} {f : FE ε ε' (List β)} (h : TR X c EX E E' (dL t) e f) : TN X c EX E E' (mL t) (.Subscript e (.Slice none none (some (.UnaryOp .USub (.Constant (.int 1) n p1) p2)) p3) pos) (fun ω s k => f ω s fun a s' => k a.reverse s') := by
  obtain ⟨u, j, h⟩ := h
  refine ⟨_, dem_rev j, fun ω s σ k κ W Q hE q hk hx => h ω s σ _ κ W _ hE q (fun a r s' σ' e' q' hv => vw_view hv ?_) hx⟩
  show Q (.lst (a.map t).reverse) σ'
  rw [← List.map_reverse]
  exact hk _ _ _ e' q'
theorem tm_cnt {x : Expr} {fa : FE ε ε1 (List β)} {g : FE ε1 ε2 α} (mk : ∀ {te : DT} {ta : DV}, DE X c o te → DEv X c x ta → DEv X c ec (dCnt te ta)) (ho : TM X c EX E E1 (dL t) o fa) (he : TM X c EX E1 E2 T x g) :
    TM X c EX E E2 PyData.int ec (fun ω s k => fa ω s fun l s1 => g ω s1 fun d s2 => gd (InOk (T d) (dL t l)) (k (((l.map t).countP fun z => PyData.eqv z (T d) : Nat) : Int) s2)) := by
  obtain ⟨u, j, h⟩ := ho
  obtain ⟨u2, j2, h2⟩ := he
  exact ⟨_, mk (de_val j) j2, fun ω s σ k κ W Q hE q hk hx => h ω s σ _ κ W _ hE q (fun l s1 σ1 e1 q1 => vw_view (d := dL t l) rfl ⟨⟨_, rfl⟩, h2 ω s1 σ1 _ κ W _ e1 q1 (fun d s2 σ2 e2 q2 => vw_view (d := dL t l) rfl ⟨(sat_gd q2).1.1, (sat_gd q2).1.2, hk _ _ _ e2 (sat_gd q2).2⟩) hx⟩) hx⟩
theorem tm_cntO {x : Expr} {g : FE ε ε2 α} {TO : List β → M} (mk : ∀ {te : DT} {ta : DV}, DE X c o te → DEv X c x ta → DEv X c ec (dCnt te ta)) (ho : DE X c o (dName j)) {get1 : ε → List β} (o1 : SO E j TO get1) {get : ε2 → List β} (o2 : SO E2 j TO get) (hv : ∀ a, (TO a).view = dL t a) (he : TM X c EX E E2 T x g) :
    TM X c EX E E2 PyData.int ec (fun ω s k => g ω s fun d s2 => gd (InOk (T d) (dL t (get s2))) (k ((((get s2).map t).countP fun z => PyData.eqv z (T d) : Nat) : Int) s2)) := by
  obtain ⟨u2, j2, h2⟩ := he
  refine ⟨_, mk ho j2, fun ω s σ k κ W Q hE q hk hx => ?_⟩
  have vw1 : ∀ {ε : Type} {E : ε → DS → Prop} {get : ε → List β} (o1 : SO E j TO get) (s : ε) (σ : DS), E s σ → view σ (.s j) = some (dL t (get s)) := by
    intro ε E get o1 s σ hE
    show (match σ[j]? with
    | some (.val d) => some d
    | some (.ow m) => some m.view
    | _ => none) = _
    rw [o1.g _ _ hE, ← hv]
  show dName j W σ _
  unfold dName
  rw [o1.g _ _ hE]
  refine vw_view (vw1 o1 s σ hE) ⟨⟨_, rfl⟩, h2 ω s σ _ κ W _ hE q (fun d s2 σ2 e2 q2 => vw_view (vw1 o2 s2 σ2 e2) ⟨(sat_gd q2).1.1, (sat_gd q2).1.2, hk _ _ _ e2 (sat_gd q2).2⟩) hx⟩
end
end TL
namespace DL
open PySem PySem.Spec PyProof.Rows L2
/-! ### t[::-1], t a tuple -/
section
variable {prog : Program} {w : World} {A : Around} {E : Value → Shared → Prop} {s : Shared}
theorem rev_picks (items : Array Value) : ((List.range items.size).filterMap fun (k : Nat) => items[(((items.size : Int) - 1) + (k : Int) * (-1)).toNat]?) = items.toList.reverse := by
  apply List.ext_getElem?
  intro i
  have key : ∀ n, n ≤ items.size → ((List.range n).filterMap fun (k : Nat) => items[(((items.size : Int) - 1) + (k : Int) * (-1)).toNat]?) = (List.range n).map fun k => items[items.size - 1 - k]?.getD .none := by
    intro n
    induction n with
    | zero => intro _; rfl
    | succ n ih =>
      intro hn
      rw [List.range_succ, List.filterMap_append, List.map_append, ih (by omega)]
      have e : (((items.size : Int) - 1) + (n : Int) * (-1)).toNat = items.size - 1 - n := by omega
      have hl : items.size - 1 - n < items.size := by omega
      congr 1
      rw [List.filterMap_cons_some (b := items[items.size - 1 - n]) (by show items[(((items.size : Int) - 1) + (n : Int) * (-1)).toNat]? = _; rw [e]; exact Array.getElem?_eq_getElem hl)]
      simp [Array.getElem?_eq_getElem hl]
  rw [key _ (Nat.le_refl _)]
  by_cases hi : i < items.size
  · have hl : items.size - 1 - i < items.size := by omega
    rw [List.getElem?_map, List.getElem?_range hi, List.getElem?_reverse (by simpa using hi)]
    simp [Array.getElem?_eq_getElem hl]
  · rw [List.getElem?_eq_none (by simp; omega), List.getElem?_eq_none (by simp; omega)]
theorem applied_rev {sl : Addr} {n : Nat} {u : Tok} {Q : Int × Int × Nat → Shared → Prop} (hs : s.heap.IsSliceOf sl .none .none (.int (-1) u)) (h : Q ((n : Int) - 1, -1, n) s) :
    wpAny (model prog w) A (Builtin.Slice.sliceApplied (.ref sl) (pure (n : Int))) Q E s := by
  obtain ⟨os, hos, hcs, hds⟩ := id hs
  unfold Builtin.Slice.sliceApplied Builtin.Slice.sliceFields
  refine wpAny_bind (wpAny_bind (wpAny_field hos hds (x := .none) rfl (wpAny_bind (wpAny_field hos hds (x := .none) rfl (wpAny_bind (wpAny_field hos hds (x := .int (-1) u) rfl (wpAny_pure ?_)))))))
  refine wpAny_bind (slicePart_int ?_)
  show wpAny _ _ (if ((-1 : Int) == 0) = true then _ else _) _ _ s
  rw [if_neg (by decide)]
  refine wpAny_bind (slicePart_none (wpAny_bind (slicePart_none (wpAny_bind (wpAny_pure ?_)))))
  have e1 : Builtin.Slice.sliceAdjust none none (-1) (n : Int) = ((n : Int) - 1, -1) := by
    unfold Builtin.Slice.sliceAdjust
    simp
  have e2 : Builtin.Slice.slicePlaces ((n : Int) - 1) (-1) (-1) = n := by
    unfold Builtin.Slice.slicePlaces
    simp
    omega
  show wpAny _ _ (match Builtin.Slice.sliceAdjust none none (-1) (n : Int) with | (lo, hi) => pure (lo, (-1 : Int), Builtin.Slice.slicePlaces lo hi (-1))) _ _ s
  rw [e1]
  show wpAny _ _ (pure ((n : Int) - 1, (-1 : Int), Builtin.Slice.slicePlaces ((n : Int) - 1) (-1) (-1))) _ _ s
  rw [e2]
  exact wpAny_pure h
theorem getItem_rev {t sl : Addr} {items : Array Value} {u : Tok} {Q : Value → Shared → Prop} (ht : IsTup s.heap t items) (hs : s.heap.IsSliceOf sl .none .none (.int (-1) u)) (hz : items.size ≤ sizeLine)
    (h : Q (.ref s.heap.objs.size) { s with heap := s.heap.push { cls := .type "tuple", data := .seq items.toList.reverse.toArray } }) : wpAny (model prog w) A (getItem (.ref t) (.ref sl)) Q E s := by
  have hok : sizeOk (.seq items.toList.reverse.toArray) := by
    show items.toList.reverse.toArray.size ≤ sizeLine
    simpa using hz
  obtain ⟨os, hos, hcs, hds⟩ := id hs
  have hTs : s.TypeIs (.ref sl) "slice" := ⟨os, hos, hcs⟩
  unfold getItem
  try with_reducible refine wpAny_holding ?_
  first | refine wpAny_bind (wpAny_pure ?_) | skip
  refine wpAny_bind (wpAny_sequenceKey ht.typeIs (by decide) ?_)
  refine wpAny_bind (wpAny_callSpecial?_slot (name := Str.ofString "__getitem__") ht.typeIs PyProof.Rows.slot_tuple_getitem
    (wpAny_call_entry PyProof.Rows.slot_tuple_getitem ht.typeIs entry_tuple_getitem ?_ (args_tuple_getitem _ _)))
  show wpAny _ _ (Builtin.Tuple.tupleItemsOf (.ref t) >>= _) _ _ s
  refine wpAny_bind (tupleItemsOf_ ht ?_)
  refine wpAny_bind (wpAny_typeOf hTs ?_)
  rw [if_pos (by decide)]
  refine wpAny_bind (applied_rev hs ?_)
  have hno : ¬ ((((items.size : Int) - 1) == 0 && (-1 : Int) == 1 && items.size == items.size) = true) := by
    have : ((-1 : Int) == 1) = false := by decide
    rw [this]; simp
  show wpAny _ _ (if (((items.size : Int) - 1) == 0 && (-1 : Int) == 1 && items.size == items.size) = true then _ else _) _ _ s
  rw [if_neg hno, rev_picks]
  first
    | exact wpAny_bind (m := Builtin.Tuple.tupleExact _) (wpAny_newObj_type (wpAny_pure ⟨_, rfl, wpAny_pure h⟩) hok)
    | exact wpAny_bind (m := Builtin.Tuple.tupleExact _) (wpAny_newObj_type (wpAny_bind (wpAny_pure (wpAny_pure ⟨_, rfl, wpAny_pure h⟩))) hok)
    | exact wpAny_bind (wpAny_bind (m := Builtin.Tuple.tupleExact _) (wpAny_newObj_type (wpAny_pure (wpAny_pure ⟨_, rfl, wpAny_pure h⟩)) hok))
    | exact wpAny_bind (wpAny_bind (m := Builtin.Tuple.tupleExact _) (wpAny_newObj_type (wpAny_pure ⟨_, rfl, wpAny_pure h⟩) hok))
end
def tRevT (K : PySem.W.Frag) (te : TE) : TE := fun σ H Q => te σ H fun x H1 => ∃ a xs, x = .ref a ∧ SqT K H1 a xs ∧ ∀ p, H1 p = none → Q (.ref p) (upd H1 p (.tup xs.reverse))
section
variable {X : Cx} {c : DC} {e : Expr} {k : Nat} {p1 p2 p3 pos : Pos}
theorem pe_revT {te : TE} (he : PE X e te) : PE X (.Subscript e (.Slice none none (some (.UnaryOp .USub (.Constant (.int 1) k p1) p2)) p3) pos) (tRevT X.K te) := by
  refine ⟨fun pins s σ H Q I h => ?_⟩
  refine Subscript_ (thn (he.run pins s σ H _ I h) fun v s1 ⟨x, H1, I1, r1, q1⟩ => ?_)
  obtain ⟨a, xs, ex, hx, q⟩ := q1
  subst ex
  cases r1
  have hst : PO X (some (.UnaryOp .USub (.Constant (.int 1) k p1) p2)) (tPart (tUn (rU fun i => .int (-i)) (tC (.int 1)))) := po_some (pe_un un_neg pe_int)
  refine wpAny_Slice (thn (po_none.run pins s1 σ H1 (fun o H2 => o = none ∧ H2 = H1) I1 ⟨rfl, rfl⟩) fun vl s2 ⟨l, H2, I2, pl, el, e2⟩ => ?_)
  subst el e2
  refine thn (po_none.run pins s2 σ H2 (fun o H3 => o = none ∧ H3 = H2) I2 ⟨rfl, rfl⟩) fun vu s3 ⟨u, H3, I3, pu, eu, e3⟩ => ?_
  subst eu e3
  refine thn (hst.run pins s3 σ H3 (fun o H4 => o = some (-1) ∧ H4 = H3) I3 ⟨1, rfl, -1, rfl, rfl, rfl⟩) fun vs s4 ⟨o, H4, I4, ps, eo, e4⟩ => ?_
  subst eo e4
  cases pl
  cases pu
  obtain ⟨uu, rfl⟩ : ∃ uu, vs = .int (-1) uu := by cases ps; exact ⟨_, rfl⟩
  have I5 : Inv X pins σ H4 { s4 with heap := s4.heap.push { cls := .type "slice", data := .fields #[.none, .none, .int (-1) uu] } } := I4.kept (t' := s4.toks) fun b ob q => Heap.get?_push_of_some _ q
  obtain ⟨its, r, ht, hz⟩ := I5.tuple hx
  have hlen := r.length
  show wpAny (model X.prog X.w) X.A (subscriptTail e (.Slice none none (some (.UnaryOp .USub (.Constant (.int 1) k p1) p2)) p3) (.ref a) (.ref s4.heap.objs.size)) (EP X pins σ Q) X.xe { s4 with heap := s4.heap.push { cls := .type "slice", data := .fields #[.none, .none, .int (-1) uu] } }
  refine tail_any (ops := [.ref a, .ref s4.heap.objs.size]) ht.typeIs (PyProof.Rows.slot_tuple_getitem.lookup) ?_ (by with_unfolding_all rfl)
  refine getItem_rev ht (Heap.IsSliceOf.new _ .none .none (.int (-1) uu)) (by rw [List.size_toArray]; omega) ?_
  refine ⟨.ref _, _, I5.laid (t' := s4.toks) (o := .tup xs.reverse) (fun b ob q => Heap.get?_push_of_some _ q) (Nat.le_refl _) ?_, rfl, q _ (I5.hok.fresh (Nat.le_refl _))⟩
  exact ⟨by rw [List.length_reverse]; exact hz, _, r.reverse, ⟨_, Heap.get?_push_size _ rfl, rfl, _, rfl⟩⟩
def rvT : D → (D → Prop) → Prop
  | .tuple xs, k => k (.tuple xs.reverse)
  | _, _ => False
def dRevT (te : DV) : DV := fun W σ Q => te W σ fun d σ1 => rvT d fun d2 => Q d2 σ1
theorem dev_revT {te : DV} (he : DEv X c e te) : DEv X c (.Subscript e (.Slice none none (some (.UnaryOp .USub (.Constant (.int 1) k p1) p2)) p3) pos) (dRevT te) := fun n W tk => by
  obtain ⟨tv, pe, hr⟩ := he n W tk
  refine ⟨_, pe_revT pe, fun σ σv H Q Qv g up q kk => ?_⟩
  refine hr σ σv H _ _ g up q fun d σ1 v H1 g1 x1 r1 q1 => ?_
  cases d <;> first | exact q1.elim | skip
  next ds =>
  obtain ⟨a, ys, rfl, h1, h3, h2⟩ := (show VR X.K H1 v (.tuple ds) from .inl r1).tup
  refine ⟨a, ys, rfl, h1, fun p hp => ?_⟩
  have sm := Same.new (o := .tup ys.reverse) hp
  exact kk _ _ _ _ (g1.same sm) (x1.trans (Mv.same sm)) (.tup (.inl (.inl (stab_tup upd_same))) (h2.reverse.ext (Ext.new hp))) q1
end
end DL
namespace DL
open PySem PySem.Spec PyProof.Rows L2
theorem boot_max' : bootBuiltins "max" = some (.builtin "max") := by decide +kernel
theorem boot_min' : bootBuiltins "min" = some (.builtin "min") := by decide +kernel
theorem boot_divmod' : bootBuiltins "divmod" = some (.builtin "divmod") := by decide +kernel
theorem Rps.rep {K : PySem.W.Frag} {H : Hp} {vs : List V} {ds : List D} (r : Rps K H vs ds) : ∀ n, Rps K H (List.replicate n vs).flatten (List.replicate n ds).flatten
  | 0 => .nil
  | n + 1 => by rw [List.replicate_succ, List.replicate_succ, List.flatten_cons, List.flatten_cons]; exact r.append (r.rep n)
/-! ### l * k, l a list -/
section
variable {X : Cx}
def rRepA : R2 := fun x y H Q => ∃ l k xs, x = .ref l ∧ y = .int k ∧ Rd H l (.lst xs) ∧ -(2 ^ 63) ≤ k ∧ k < 2 ^ 63 ∧ xs.length * k.toNat ≤ sizeLine ∧ ∀ p, H p = none → Q (.ref p) (upd H p (.lst (List.replicate k.toNat xs).flatten))
theorem op_repA : OpR X (binaryOp .Mult) rRepA := by
  intro pins s σ H x y v u Q I rx ry h
  obtain ⟨l, k, xs, rfl, rfl, hR, h1, h2, hz, q⟩ := h
  cases rx
  obtain ⟨t, rfl⟩ := ry
  obtain ⟨z, its, n, r, eo⟩ := hR.ok I.hok
  have hl : xs.length = its.length := r.length
  have fit : ¬ (!Builtin.List.listFitsIndex k) = true := by rw [fitsIndex_both h1 h2]; exact Bool.false_ne_true
  have room : its.toArray.size * k.toNat ≤ sizeLine := by rw [List.size_toArray, ← hl]; exact hz
  have cap : ¬ its.toArray.size * k.toNat > (2 ^ 63 - 1) / 8 := by
    have : (sizeLine : Nat) ≤ (2 ^ 63 - 1) / 8 := by decide
    omega
  have long : ¬ Builtin.List.listTooLong (its.toArray.size * k.toNat) = true := by rw [notLongL room]; exact Bool.false_ne_true
  have made : List.foldl (fun x1 x2 => x1 ++ x2) #[] (List.replicate (if its.toArray.isEmpty = true then 0 else k.toNat) its.toArray) = (List.replicate k.toNat its).flatten.toArray := by
    have f0 : ∀ m : Nat, List.foldl (fun x1 x2 => x1 ++ x2) #[] (List.replicate m its.toArray) = (List.replicate m its).flatten.toArray := fun m => by simpa using foldl_rep its m []
    rw [f0]
    cases its with
    | nil => simp
    | cons a rest => rw [if_neg (by simp)]
  refine wpAny_binaryOp_repeat_ref (T := "list") (U := "int") (by decide) ⟨_, eo, rfl⟩ (fun s' => typeIs_int s' k t) noFill_list_mul F.fills_int_mul F.slot_int_rmul repeat_list F.slot_int_index.lookup
    (call_meets F.slot_int_rmul (typeIs_int s k t) F.entry_int_rmul (F.args_int_rmul_2 _ _) (int___rmul___int_list k t l its.toArray n)
      ⟨eo, rfl, ⟨_, eo, rfl⟩, call_meets F.slot_list_mul ⟨_, eo, rfl⟩ F.entry_list_mul (F.args_list_mul_2 _ _) (AutoListH.list___mul___list_int_3 l its.toArray n k t fit cap long) ⟨eo, ?_⟩⟩)
  rw [made]
  exact ⟨.ref _, _, I.lnew (t' := s.toks) (r.rep k.toNat) (by rw [PyProof.Rows.lm_len_rep_flat, Nat.mul_comm]; exact hz), rfl, q _ I.fresh⟩
def repM : OM
  | .list ds, .int k, Q => (-(2 ^ 63) ≤ k ∧ k < 2 ^ 63 ∧ ds.length * k.toNat ≤ sizeLine) ∧ Q (.lst (List.replicate k.toNat ds).flatten)
  | _, _, _ => False
theorem op_repM : OpM X (binaryOp .Mult) repM := ⟨_, op_repA, fun x y v u H Qv Q rx ry q k => by
  unfold repM at q
  split at q
  · obtain ⟨a, ys, rfl, h1, h2⟩ := rx.lst
    cases ry.int
    exact ⟨_, _, ys, rfl, rfl, h1, q.1.1, q.1.2.1, by rw [h2.length]; exact q.1.2.2, fun p hp => k _ _ _ (.lst hp (h2.rep _)) q.2⟩
  · exact q.elim⟩
def repL : OD
  | .list ds, .int k, Q => (-(2 ^ 63) ≤ k ∧ k < 2 ^ 63 ∧ ds.length * k.toNat ≤ sizeLine) ∧ Q (.list (List.replicate k.toNat ds).flatten)
  | _, _, _ => False
theorem op_repLD : OpD X (binaryOp .Mult) repL := ⟨_, op_repA, fun x y v u H Qv Q rx ry q k => by
  unfold repL at q
  split at q
  · obtain ⟨a, ys, rfl, h1, h2⟩ := rx.lst
    cases ry.int
    exact ⟨_, _, ys, rfl, rfl, h1, q.1.1, q.1.2.1, by rw [h2.length]; exact q.1.2.2, fun p hp => k _ _ _ (.lst hp (h2.rep _)) q.2⟩
  · exact q.elim⟩
/-! ### t * k, t a tuple -/
theorem tup_mul_same (l : Addr) (items : Array Value) (n : Nat) (dd : Option Addr) (sl : Array (Option Value)) (x : Int) (u : Tok) (c0 : (decide (x < -(2 ^ 63)) || decide (x ≥ 2 ^ 63)) = false) (c1 : (items.isEmpty || x == 1) = true) :
    Meets (Builtin.«tuple.__mul__» ⟨[.ref l, .int x u], []⟩) (fun _ R s => s.heap.get? l = some { cls := .type "tuple", dict := dd, data := .seq items n, slots := sl } ∧ R (.ok (.ret (Value.ref l))) s) :=
  .of_wp fun prog w A R s h => by
    obtain ⟨hp, g, d, tk, os⟩ := s
    obtain ⟨hl, h⟩ := h
    have f1 := AutoSeq1.idx_int
    wp_walk using wpAny_loadPart' hl
    refine wpAny_ite_false (decide_eq_false (by rw [c0]; exact Bool.false_ne_true)) ?_
    wp_walk using wpAny_loadPart' hl
    exact ⟨_, rfl, h⟩
theorem tup_mul_none (l : Addr) (items : Array Value) (n : Nat) (dd : Option Addr) (sl : Array (Option Value)) (x : Int) (u : Tok) (c0 : (decide (x < -(2 ^ 63)) || decide (x ≥ 2 ^ 63)) = false) (c1 : (items.isEmpty || x == 1) = false) (c2 : (decide (x ≤ 0) || items.isEmpty) = true) :
    Meets (Builtin.«tuple.__mul__» ⟨[.ref l, .int x u], []⟩) (fun _ R s => s.heap.get? l = some { cls := .type "tuple", dict := dd, data := .seq items n, slots := sl } ∧
      R (.ok (.ret (Value.ref s.heap.objs.size))) { s with heap := s.heap.push { cls := Value.type "tuple", data := Data.seq #[] }, toks := s.toks }) :=
  .of_wp fun prog w A R s h => by
    obtain ⟨hp, g, d, tk, os⟩ := s
    obtain ⟨hl, h⟩ := h
    have f1 := AutoSeq1.idx_int
    wp_walk using wpAny_loadPart' hl
    refine wpAny_ite_false (decide_eq_false (by rw [c0]; exact Bool.false_ne_true)) ?_
    wp_walk using wpAny_loadPart' hl
    exact ⟨_, rfl, h⟩
def rRepTA (K : PySem.W.Frag) : R2 := fun x y H Q => ∃ l k xs, x = .ref l ∧ y = .int k ∧ SqT K H l xs ∧ -1000 ≤ k ∧ k ≤ 1000 ∧ xs.length ≤ 1000 ∧ ((xs = [] ∨ k = 1) → Q (.ref l) H) ∧
  ∀ p, H p = none → Q (.ref p) (upd H p (.tup (List.replicate k.toNat xs).flatten))
theorem op_repTA : OpR X (binaryOp .Mult) (rRepTA X.K) := by
  intro pins s σ H x y v u Q I rx ry h
  obtain ⟨l, k, xs, rfl, rfl, hT, h1, h2, hz, qs, q⟩ := h
  by_cases big : xs ≠ [] ∧ 2 ≤ k
  · exact op_repT pins s σ H _ _ v u Q I rx ry ⟨l, k, xs, rfl, rfl, hT, big.1, big.2, h2, hz, q⟩
  cases rx
  obtain ⟨t, rfl⟩ := ry
  obtain ⟨its, r, ⟨⟨cls, dd, data, sl⟩, ho, hc, n, hd⟩, hs⟩ := I.tuple hT
  simp only at hc hd
  subst hc hd
  have hle : its.length = xs.length := r.length.symm
  have c0 : (decide (k < -(2 ^ 63)) || decide (k ≥ 2 ^ 63)) = false := by
    rw [decide_eq_false (by omega), decide_eq_false (by omega)] <;> rfl
  by_cases c1 : (its.toArray.isEmpty || k == 1) = true
  · refine wpAny_binaryOp_repeat_ref (T := "tuple") (U := "int") (by decide) ⟨_, ho, rfl⟩ (fun s' => typeIs_int s' k t) noFill_tuple_mul F.fills_int_mul F.slot_int_rmul repeat_tuple F.slot_int_index.lookup
      (call_meets F.slot_int_rmul (typeIs_int s k t) F.entry_int_rmul (F.args_int_rmul_2 _ _) (int_rmul_tuple k t l its.toArray n dd sl)
        ⟨ho, rfl, ⟨_, ho, rfl⟩, call_meets F.slot_tuple_mul ⟨_, ho, rfl⟩ F.entry_tuple_mul (F.args_tuple_mul_2 _ _) (tup_mul_same l its.toArray n dd sl k t c0 c1) ⟨ho, ?_⟩⟩)
    refine ⟨.ref l, H, I, rfl, qs ?_⟩
    rw [Bool.or_eq_true] at c1
    rcases c1 with c1 | c1
    · left
      have : its = [] := by simpa using c1
      rw [this] at hle
      exact List.eq_nil_of_length_eq_zero hle.symm
    · right
      exact beq_iff_eq.mp c1
  · have c1 : (its.toArray.isEmpty || k == 1) = false := by simpa using c1
    have ne : xs ≠ [] := fun e => by
      rw [e] at hle
      have : its = [] := List.eq_nil_of_length_eq_zero hle
      rw [this] at c1
      exact absurd c1 (by simp)
    have k0 : k ≤ 0 := by
      have : k ≠ 1 := fun e => by rw [e] at c1; simp at c1
      have : ¬ 2 ≤ k := fun e => big ⟨ne, e⟩
      omega
    have c2 : (decide (k ≤ 0) || its.toArray.isEmpty) = true := by rw [decide_eq_true k0]; rfl
    refine wpAny_binaryOp_repeat_ref (T := "tuple") (U := "int") (by decide) ⟨_, ho, rfl⟩ (fun s' => typeIs_int s' k t) noFill_tuple_mul F.fills_int_mul F.slot_int_rmul repeat_tuple F.slot_int_index.lookup
      (call_meets F.slot_int_rmul (typeIs_int s k t) F.entry_int_rmul (F.args_int_rmul_2 _ _) (int_rmul_tuple k t l its.toArray n dd sl)
        ⟨ho, rfl, ⟨_, ho, rfl⟩, call_meets F.slot_tuple_mul ⟨_, ho, rfl⟩ F.entry_tuple_mul (F.args_tuple_mul_2 _ _) (tup_mul_none l its.toArray n dd sl k t c0 c1 c2) ⟨ho, ?_⟩⟩)
    have e0 : (List.replicate k.toNat xs).flatten = [] := by rw [show k.toNat = 0 by omega]; rfl
    have q' := q s.heap.objs.size (I.hok.fresh (Nat.le_refl _))
    rw [e0] at q'
    refine ⟨.ref s.heap.objs.size, _, I.laid (t' := s.toks) (o := .tup []) (fun b ob q => Heap.get?_push_of_some _ q) (Nat.le_refl _) ?_, rfl, q'⟩
    exact ⟨Nat.zero_le _, [], .nil, IsTup.new _ _⟩
def repT : OD
  | .tuple ds, .int k, Q => (-1000 ≤ k ∧ k ≤ 1000 ∧ ds.length ≤ 1000) ∧ Q (.tuple (List.replicate k.toNat ds).flatten)
  | _, _, _ => False
theorem op_repTD : OpD X (binaryOp .Mult) repT := ⟨_, op_repTA, fun x y v u H Qv Q rx ry q k => by
  unfold repT at q
  split at q
  · next ds i =>
    obtain ⟨a, ys, rfl, h1, h3, h2⟩ := rx.tup
    cases ry.int
    refine ⟨_, _, ys, rfl, rfl, h1, q.1.1, q.1.2.1, by rw [h2.length]; exact q.1.2.2, fun e => ?_, fun p hp => k _ _ _ (.tup hp (h2.rep _)) q.2⟩
    have e2 : (List.replicate i.toNat ds).flatten = ds := by
      rcases e with e | e
      · have : ds = [] := List.eq_nil_of_length_eq_zero (by rw [← h2.length, e]; rfl)
        rw [this]
        have : ∀ n : Nat, (List.replicate n ([] : List D)).flatten = [] := fun n => by
          induction n with
          | zero => rfl
          | succ n ih => rw [List.replicate_succ, List.flatten_cons, ih]; rfl
        exact this _
      · rw [e]
        show (List.replicate 1 ds).flatten = ds
        simp
    have q2 := q.2
    rw [e2] at q2
    exact k _ _ _ (.here (.tup h3 h2)) q2
  · exact q.elim⟩
/-! ### max, min, divmod -/
def max2D : CD
  | [.int i, .int j], k => k (.int (if j > i then j else i))
  | _, _ => False
theorem call_max2D (hc : X.calm = true) : CallD X (.builtin "max") max2D := ⟨_, call_max2 hc, fun ds vs H Qv Q r q k => by
  unfold max2D at q
  split at q
  · cases r with
    | cons h1 h2 =>
      cases h2 with
      | cons h3 h4 => cases h4; cases h1.int; cases h3.int; exact ⟨_, _, rfl, k _ _ _ (.here (.int _)) q⟩
  · exact q.elim⟩
def min2D : CD
  | [.int i, .int j], k => k (.int (if j < i then j else i))
  | _, _ => False
theorem call_min2D (hc : X.calm = true) : CallD X (.builtin "min") min2D := ⟨_, call_min2 hc, fun ds vs H Qv Q r q k => by
  unfold min2D at q
  split at q
  · cases r with
    | cons h1 h2 =>
      cases h2 with
      | cons h3 h4 => cases h4; cases h1.int; cases h3.int; exact ⟨_, _, rfl, k _ _ _ (.here (.int _)) q⟩
  · exact q.elim⟩
def divmodD : CD
  | [.int i, .int j], k => (0 < j ∧ j < 1073741824) ∧ k (.tuple [.int (i / j), .int (i % j)])
  | _, _ => False
theorem call_divmodD : CallD X (.builtin "divmod") divmodD := ⟨_, call_divmod, fun ds vs H Qv Q r q k => by
  unfold divmodD at q
  split at q
  · cases r with
    | cons h1 h2 =>
      cases h2 with
      | cons h3 h4 => cases h4; cases h1.int; cases h3.int; exact ⟨_, _, rfl, q.1, fun p hp => k _ _ _ (.tup hp (.cons (.int _) (.cons (.int _) .nil))) q.2⟩
  · exact q.elim⟩
/-- whole numbers alone -/
def intsD : List D → Option (List Int)
  | [] => some []
  | .int i :: r => (intsD r).map (i :: ·)
  | _ :: _ => none
theorem intsD_some : ∀ {ds : List D} {ns : List Int}, intsD ds = some ns → ds = ns.map .int
  | [], ns, h => by cases h; rfl
  | .int i :: r, ns, h => by
    unfold intsD at h
    cases e : intsD r with
    | none => rw [e] at h; cases h
    | some ms => rw [e] at h; cases h; rw [intsD_some e]; rfl
  | .none :: _, _, h => by cases h
  | .bool _ :: _, _, h => by cases h
  | .str _ :: _, _, h => by cases h
  | .list _ :: _, _, h => by cases h
  | .tuple _ :: _, _, h => by cases h
  | .dict _ :: _, _, h => by cases h
/-- the greatest, the least of a list of whole numbers -/
def maxI : List Int → Int
  | [] => 0
  | [a] => a
  | a :: b :: r => let m := maxI (b :: r); if a < m then m else a
def minI : List Int → Int
  | [] => 0
  | [a] => a
  | a :: b :: r => let m := minI (b :: r); if m < a then m else a
theorem maxI_spec : ∀ {ns : List Int}, ns ≠ [] → maxI ns ∈ ns ∧ ∀ y ∈ ns, y ≤ maxI ns
  | [], h => absurd rfl h
  | [a], _ => ⟨by simp [maxI], fun y hy => by rw [List.mem_singleton.mp hy]; exact Int.le_refl _⟩
  | a :: b :: r, _ => by
    obtain ⟨h1, h2⟩ := maxI_spec (ns := b :: r) (by simp)
    show (if a < maxI (b :: r) then maxI (b :: r) else a) ∈ _ ∧ ∀ y ∈ _, y ≤ (if a < maxI (b :: r) then maxI (b :: r) else a)
    split
    · refine ⟨List.mem_cons_of_mem _ h1, fun y hy => ?_⟩
      rcases List.mem_cons.mp hy with rfl | hy
      · omega
      · exact h2 y hy
    · refine ⟨List.mem_cons_self, fun y hy => ?_⟩
      rcases List.mem_cons.mp hy with rfl | hy
      · omega
      · have := h2 y hy; omega
theorem minI_spec : ∀ {ns : List Int}, ns ≠ [] → minI ns ∈ ns ∧ ∀ y ∈ ns, minI ns ≤ y
  | [], h => absurd rfl h
  | [a], _ => ⟨by simp [minI], fun y hy => by rw [List.mem_singleton.mp hy]; exact Int.le_refl _⟩
  | a :: b :: r, _ => by
    obtain ⟨h1, h2⟩ := minI_spec (ns := b :: r) (by simp)
    show (if minI (b :: r) < a then minI (b :: r) else a) ∈ _ ∧ ∀ y ∈ _, (if minI (b :: r) < a then minI (b :: r) else a) ≤ y
    split
    · refine ⟨List.mem_cons_of_mem _ h1, fun y hy => ?_⟩
      rcases List.mem_cons.mp hy with rfl | hy
      · omega
      · exact h2 y hy
    · refine ⟨List.mem_cons_self, fun y hy => ?_⟩
      rcases List.mem_cons.mp hy with rfl | hy
      · omega
      · have := h2 y hy; omega
theorem Rd.same {H H' : Hp} {a : Addr} {u : HO} (h : Rd H a u) (s : Same H H') : Rd H' a u := by
  rcases h with h | ⟨o, h⟩
  · exact .inl (s _ _ h)
  · exact .inr ⟨o, s _ _ h⟩
def maxLD : CD
  | [.list ds], k => match intsD ds with
    | some ns => ns ≠ [] ∧ k (.int (maxI ns))
    | none => False
  | _, _ => False
theorem call_maxLD (hc : X.calm = true) : CallD X (.builtin "max") maxLD := ⟨_, cr_max hc, fun ds vs H Qv Q r q k => by
  unfold maxLD at q
  split at q
  · next ds =>
    cases r with
    | cons h1 h2 =>
      cases h2
      split at q
      · next ns e =>
        obtain ⟨a, ys, rfl, g1, g2⟩ := h1.lst
        rw [intsD_some e] at g2
        have := rps_ints g2
        subst this
        refine ⟨a, ns, rfl, .inl g1, List.length_pos_iff.mpr q.1, fun m hm hle => ?_⟩
        obtain ⟨s1, s2⟩ := maxI_spec q.1
        have e2 : m = maxI ns := by have := s2 m hm; have := hle _ s1; omega
        subst e2
        exact k _ _ _ (.here (.int _)) q.2
      · exact q.elim
  · exact q.elim⟩
def minLD : CD
  | [.list ds], k => match intsD ds with
    | some ns => ns ≠ [] ∧ k (.int (minI ns))
    | none => False
  | _, _ => False
theorem call_minLD (hc : X.calm = true) : CallD X (.builtin "min") minLD := ⟨_, cr_min hc, fun ds vs H Qv Q r q k => by
  unfold minLD at q
  split at q
  · next ds =>
    cases r with
    | cons h1 h2 =>
      cases h2
      split at q
      · next ns e =>
        obtain ⟨a, ys, rfl, g1, g2⟩ := h1.lst
        rw [intsD_some e] at g2
        have := rps_ints g2
        subst this
        refine ⟨a, ns, rfl, .inl g1, List.length_pos_iff.mpr q.1, fun m hm hle => ?_⟩
        obtain ⟨s1, s2⟩ := minI_spec q.1
        have e2 : m = minI ns := by have := s2 m hm; have := hle _ s1; omega
        subst e2
        exact k _ _ _ (.here (.int _)) q.2
      · exact q.elim
  · exact q.elim⟩
end
end DL
namespace DL
open PySem PySem.Spec PyProof.Rows L2
section
variable {X : Cx} {c : DC} {e : Expr} {pos : Pos}
theorem Rps.dropLast {K : PySem.W.Frag} {H : Hp} : ∀ {vs : List V} {ds : List D}, Rps K H vs ds → Rps K H vs.dropLast ds.dropLast
  | _, _, .nil => .nil
  | [_], [_], .cons _ .nil => .nil
  | _ :: _ :: _, _ :: _ :: _, .cons h (.cons h2 r) => .cons h (Rps.dropLast (.cons h2 r))
/-- x.pop(), x a slot's list, what it tells let go -/
def sPop (j : Nat) : DTS := fun Dn σ => atSl σ j fun m => match m with
  | .lst ds => ds ≠ [] ∧ Dn.nx (σ.set j (.ow (.lst ds.dropLast)))
  | _ => False
theorem st_pop (j : Nat) {x : Str} {px apos cpos : Pos} (hN : X.N[j]? = some x := by rfl) (hv : Vis X.env.scope x := by first | exact Or.inl rfl | exact Or.inr (Or.inl rfl) | exact Or.inr (Or.inr rfl))
    (hd : (x == ("__debug__" : Str)) = false := by decide +kernel) (hcd : (x == ("__classdict__" : Str)) = false := by decide +kernel)
    (pb : ∀ (to : TE), PE X (.Name x px) to → PE X (.Call (.Attribute (.Name x px) "pop" apos) [] [] cpos) (tBM0 X.K "list" rPop to) := by exact fun to a => pe_bm0 PySem.F.plainAttrs_list PySem.F.slot_list_pop PySem.F.type_list_pop mt_pop a)
    (hs : swapsWith (.Call (.Attribute (.Name x px) "pop" apos) [] [] cpos) none pos.line X.env = pure false := by rfl) :
    DSt X c (.Expr (.Call (.Attribute (.Name x px) "pop" apos) [] [] cpos) pos) (sPop j) := fun n W tk => by
  refine ⟨_, ps_expr (pb _ (pe_var (i := j) hN hv hd hcd)) hs, fun Dn σ σv H Dv ex g up q r => ?_⟩
  subst ex
  obtain ⟨m0, e0, q2⟩ := atSl_of q
  obtain ⟨p, hp, hm0, _⟩ := g.ow j m0 e0
  cases m0 with
  | dct _ => exact q2.elim
  | lst ds =>
    obtain ⟨xs, h1, h2⟩ := hm0
    refine ⟨_, hp, .inl ⟨rfl, xs, SqL.of h1⟩, ?_⟩
    obtain ⟨g3, x3⟩ := chg_list (es := ds.dropLast) g e0 hp h1 rfl h2.dropLast
    have hne : xs ≠ [] := fun e => q2.1 (List.eq_nil_of_length_eq_zero (by rw [← h2.length, e]; rfl))
    refine ⟨p, xs, xs.getLast hne, rfl, rfl, h1, ?_, r.nx _ _ _ g3 x3 q2.2⟩
    rw [List.getElem?_eq_getElem (by have := List.length_pos_iff.mpr hne; omega), List.getLast_eq_getElem]
/-- x.reverse() -/
def sRev (j : Nat) : DTS := fun Dn σ => atSl σ j fun m => match m with
  | .lst ds => Dn.nx (σ.set j (.ow (.lst ds.reverse)))
  | _ => False
theorem st_rev (j : Nat) {x : Str} {px apos cpos : Pos} (hN : X.N[j]? = some x := by rfl) (hv : Vis X.env.scope x := by first | exact Or.inl rfl | exact Or.inr (Or.inl rfl) | exact Or.inr (Or.inr rfl))
    (hd : (x == ("__debug__" : Str)) = false := by decide +kernel) (hcd : (x == ("__classdict__" : Str)) = false := by decide +kernel)
    (pb : ∀ (to : TE), PE X (.Name x px) to → PE X (.Call (.Attribute (.Name x px) "reverse" apos) [] [] cpos) (tBM0 X.K "list" rReverse to) := by exact fun to a => pe_bm0 PySem.F.plainAttrs_list PySem.F.slot_list_reverse PySem.F.type_list_reverse mt_reverse a)
    (hs : swapsWith (.Call (.Attribute (.Name x px) "reverse" apos) [] [] cpos) none pos.line X.env = pure false := by rfl) :
    DSt X c (.Expr (.Call (.Attribute (.Name x px) "reverse" apos) [] [] cpos) pos) (sRev j) := fun n W tk => by
  refine ⟨_, ps_expr (pb _ (pe_var (i := j) hN hv hd hcd)) hs, fun Dn σ σv H Dv ex g up q r => ?_⟩
  subst ex
  obtain ⟨m0, e0, q2⟩ := atSl_of q
  obtain ⟨p, hp, hm0, _⟩ := g.ow j m0 e0
  cases m0 with
  | dct _ => exact q2.elim
  | lst ds =>
    obtain ⟨xs, h1, h2⟩ := hm0
    refine ⟨_, hp, .inl ⟨rfl, xs, SqL.of h1⟩, ?_⟩
    obtain ⟨g3, x3⟩ := chg_list (es := ds.reverse) g e0 hp h1 rfl h2.reverse
    exact ⟨p, xs, rfl, rfl, h1, r.nx _ _ _ g3 x3 q2⟩
/-- x op= e, whole numbers -/
def sAug (f : Int → Int → Int) (i : Nat) (t : DV) : DTS := fun Dn σ => match σ[i]? with
  | some (.val (.int a)) => t Dn.xn σ fun d σ1 => match d with
    | .int b => Dn.nx (σ1.set i (.val (.int (f a b))))
    | _ => False
  | _ => False
theorem st_aug (i : Nat) {f : Int → Int → Int} {op : Operator} (ho : PIp X op (ipI f)) {t : DV} {x : Str} {pos' : Pos} (hN : X.N.Nodup) (h : DEv X c e t) (hi : X.N[i]? = some x := by rfl) (hx : Loc X.env.scope x := by first | exact Or.inl rfl | exact Or.inr rfl)
    (hf : X.fn x = true ∨ X.env.scope.names.lookup x = some .local := by first | exact .inl rfl | exact .inr rfl | assumption) : DSt X c (.AugAssign (.Name x pos') op e pos) (sAug f i t) := fun n W tk => by
  obtain ⟨tv, pe, hr⟩ := h n W tk
  refine ⟨_, ps_aug (i := i) hN hi hx pe ho hf, fun Dn σ σv H Dv ex g up q r => ?_⟩
  subst ex
  unfold sAug at q
  split at q
  · next a ea =>
    obtain ⟨v0, hv0, r0⟩ := g.val i _ ea
    cases r0
    refine ⟨_, hv0, hr σ σv H _ _ g up q fun d σ1 v H1 g1 x1 r1 q1 => ?_⟩
    cases d <;> first | exact q1.elim | skip
    next b =>
    cases r1
    exact ⟨a, b, rfl, rfl, r.nx _ _ _ (g1.setVal (.int _)) (x1.trans Mv.setVal) q1⟩
  · exact q.elim
end
end DL
namespace TL
open PySem PySem.Spec PyProof.Rows L2 DL
section
variable {X : Cx} {c : DC} {EX : DS → Prop} {ε ε1 ε2 ε3 ε4 ε'' α β γ δ ρ β₁ γ₁ : Type} {E : ε → DS → Prop} {E1 : ε1 → DS → Prop} {E2 : ε2 → DS → Prop} {E3 : ε3 → DS → Prop} {E4 : ε4 → DS → Prop} {EN : ε'' → DS → Prop} {N : Nd ρ β₁ γ₁}
variable {e a b o ec tg : Expr} {st : Stmt} {pos : Pos} {i j : Nat} {T : α → D} {T1 : α → D} {T2 : β → D} {T3 : γ → D} {t : β → D}
theorem tm_revT {n : Nat} {p1 p2 p3 : Pos} {f : FE ε ε1 (List β)} (h : TM X c EX E E1 (dT t) e f) : TM X c EX E E1 (dT t) (.Subscript e (.Slice none none (some (.UnaryOp .USub (.Constant (.int 1) n p1) p2)) p3) pos) (fun ω s k => f ω s fun a s' => k a.reverse s') := by
  obtain ⟨u, j, h⟩ := h
  refine ⟨_, dev_revT j, fun ω s σ k κ W Q hE q hk hx => h ω s σ _ κ W _ hE q (fun a s' σ' e' q' => ?_) hx⟩
  show Q (.tuple (a.map t).reverse) σ'
  rw [← List.map_reverse]
  exact hk _ _ _ e' q'
/-! built-ins with two arguments -/
def Cd2C (cd : CD) (T1 : α → D) (T2 : β → D) (T3 : γ → D) (g : (ω : Type) → α → β → (γ → Pm ω) → Pm ω) : Prop :=
  ∀ (ω : Type) (a : α) (b : β) (k : γ → Pm ω) (κ : Ka ω) (Q : D → Prop), Sat κ (g ω a b k) → (∀ c, Sat κ (k c) → Q (T3 c)) → cd [T1 a, T2 b] Q
theorem tm_call2 {cd : CD} {g : (ω : Type) → α → β → (γ → Pm ω) → Pm ω} {fa : FE ε ε1 α} {fb : FE ε1 ε2 β} (mkd : ∀ {t}, DRs X c [a, b] t → DEv X c ec (dCallB cd t)) (hg : Cd2C cd T1 T2 T3 g) (ha : TM X c EX E E1 T1 a fa) (hb : TR X c EX E1 E2 T2 b fb)
    (hst : starEach [a, b] X.env = (false, eval a X.env) :: starEach [b] X.env := by rfl) (hst2 : starEach [b] X.env = (false, eval b X.env) :: starEach [] X.env := by rfl) :
    TM X c EX E E2 T3 ec (fun ω s k => fa ω s fun x s1 => fb ω s1 fun y s2 => g ω x y fun z => k z s2) := by
  obtain ⟨t, jt, ha⟩ := ha
  obtain ⟨u, ju, hb⟩ := hb
  exact ⟨_, mkd (dr_cons (de_val jt) (dr_cons ju dr_nil hst2) hst), fun ω s σ k κ W Q hE q hk hx => ha ω s σ _ κ W _ hE q (fun x s1 σ1 e1 q1 => hb ω s1 σ1 _ κ W _ e1 q1 (fun y r s2 σ2 e2 q2 hv =>
    (vws2 (k := fun ds => cd ds fun d => Q d σ2) (r1 := .d (T1 x)) rfl hv (hg ω x y _ κ _ q2 fun z q3 => hk _ _ _ e2 q3) : vws σ2 [.d (T1 x), r] (fun ds => cd ds fun d => Q d σ2))) hx) hx⟩
theorem cd_max2 : Cd2C max2D PyData.int PyData.int PyData.int (fun _ a b k => k (max a b)) := fun ω a b k κ Q q hk => by
  show Q (.int (if b > a then b else a))
  have e : (if b > a then b else a) = max a b := by split <;> omega
  rw [e]; exact hk _ q
theorem cd_min2 : Cd2C min2D PyData.int PyData.int PyData.int (fun _ a b k => k (min a b)) := fun ω a b k κ Q q hk => by
  show Q (.int (if b < a then b else a))
  have e : (if b < a then b else a) = min a b := by split <;> omega
  rw [e]; exact hk _ q
theorem cd_divmod : Cd2C divmodD PyData.int PyData.int (dP2 PyData.int PyData.int) (fun _ a b k => gd (0 < b ∧ b < 1073741824) (k (a / b, a % b))) := fun ω a b k κ Q q hk =>
  ⟨(sat_gd q).1, hk _ (sat_gd q).2⟩
theorem intsD_map : ∀ ns : List Int, intsD (ns.map PyData.int) = some ns
  | [] => rfl
  | n :: r => by show (intsD (r.map PyData.int)).map (n :: ·) = _; rw [intsD_map r]; rfl
theorem cd_maxL : CdC maxLD (dL PyData.int) PyData.int (fun _ a k => gd (a ≠ []) (k (maxI a))) := fun ω a k κ Q q hk => by
  show match intsD (a.map PyData.int) with | some ns => ns ≠ [] ∧ Q (.int (maxI ns)) | none => False
  rw [intsD_map]
  exact ⟨(sat_gd q).1, hk _ (sat_gd q).2⟩
theorem cd_minL : CdC minLD (dL PyData.int) PyData.int (fun _ a k => gd (a ≠ []) (k (minI a))) := fun ω a k κ Q q hk => by
  show match intsD (a.map PyData.int) with | some ns => ns ≠ [] ∧ Q (.int (minI ns)) | none => False
  rw [intsD_map]
  exact ⟨(sat_gd q).1, hk _ (sat_gd q).2⟩
/-! so many times -/
def repP (n : Int) (xs : List β) : List β := (List.replicate n.toNat xs).flatten
theorem repP_map (n : Int) (xs : List β) : (List.replicate n.toNat (xs.map t)).flatten = (repP n xs).map t := by
  unfold repP
  rw [List.map_flatten, List.map_replicate]
theorem opc_repT : OpC repT (dT t) PyData.int (dT t) (fun _ a n k => gd (-1000 ≤ n ∧ n ≤ 1000 ∧ a.length ≤ 1000) (k (repP n a))) := fun ω a n k κ Q q hk => by
  refine ⟨by rw [List.length_map]; exact (sat_gd q).1, ?_⟩
  rw [repP_map]
  exact hk _ (sat_gd q).2
theorem opc_repL : OpC repL (dL t) PyData.int (dL t) (fun _ a n k => gd (-(2 ^ 63) ≤ n ∧ n < 2 ^ 63 ∧ a.length * n.toNat ≤ sizeLine) (k (repP n a))) := fun ω a n k κ Q q hk => by
  refine ⟨by rw [List.length_map]; exact (sat_gd q).1, ?_⟩
  rw [repP_map]
  exact hk _ (sat_gd q).2
theorem opc_repM : OpCM repM (dL t) PyData.int (mL t) (fun _ a n k => gd (-(2 ^ 63) ≤ n ∧ n < 2 ^ 63 ∧ a.length * n.toNat ≤ sizeLine) (k (repP n a))) := fun ω a n k κ Q q hk => by
  refine ⟨by rw [List.length_map]; exact (sat_gd q).1, ?_⟩
  rw [repP_map]
  exact hk _ (sat_gd q).2
/-! statements -/
theorem ts_pop {get : ε → List β} {put : List β → ε → ε''} (mk : DSt X c st (sPop j)) (o : SO E j (mL t) get) (hs : SS E EN j (fun a => .ow (mL t a)) put) :
    TS X c EX E EN N st (fun ω s kn _ _ _ => gd (get s ≠ []) (kn (put (get s).dropLast s))) := by
  refine ⟨_, mk, fun ω s σ kn kr kb kc κ Dn hE q d => ?_⟩
  refine at_so o hE ⟨by have := (sat_gd q).1; simpa using this, ?_⟩
  have := hs.p _ _ (get s).dropLast hE
  rw [show mL t (get s).dropLast = M.lst ((get s).map t).dropLast by show M.lst _ = _; rw [List.map_dropLast]] at this
  exact d.nx _ _ this (sat_gd q).2
theorem ts_rev {get : ε → List β} {put : List β → ε → ε''} (mk : DSt X c st (sRev j)) (o : SO E j (mL t) get) (hs : SS E EN j (fun a => .ow (mL t a)) put) :
    TS X c EX E EN N st (fun ω s kn _ _ _ => kn (put (get s).reverse s)) := by
  refine ⟨_, mk, fun ω s σ kn kr kb kc κ Dn hE q d => ?_⟩
  refine at_so o hE ?_
  have := hs.p _ _ (get s).reverse hE
  rw [show mL t (get s).reverse = M.lst ((get s).map t).reverse by show M.lst _ = _; rw [List.map_reverse]] at this
  exact d.nx _ _ this q
theorem ts_aug {f : Int → Int → Int} {fe : FE ε ε1 Int} {get : ε → Int} {put : Int → ε1 → ε''} (mk : ∀ {u}, DEv X c e u → DSt X c st (sAug f j u)) (o : SV E j PyData.int get) (he : TM X c EX E E1 PyData.int e fe) (hs : SS E1 EN j (fun a => .val (PyData.int a)) put) :
    TS X c EX E EN N st (fun ω s kn _ _ _ => fe ω s fun d s1 => kn (put (f (get s) d) s1)) := by
  obtain ⟨u, ju, he⟩ := he
  refine ⟨_, mk ju, fun ω s σ kn kr kb kc κ Dn hE q d => ?_⟩
  unfold sAug
  rw [o.g _ _ hE]
  exact he ω s σ _ κ Dn.xn _ hE q (fun v s1 σ1 e1 q1 => d.nx _ _ (hs.p _ _ _ e1) q1) d.xn
end
end TL
namespace DL
open PySem PySem.Spec PyProof.Rows L2
theorem boot_sorted' : bootBuiltins "sorted" = some (.builtin "sorted") := by decide +kernel
/-! ### sorted(a list) -/
/-- what sorted asks of the items -/
def SortOk (ds : List D) : Prop := PySem.W.AllAlike ds ∧ PySem.W.Sortable ds ∧ ∀ d ∈ ds, d.depth ≤ 60
def sortD (ds : List D) : List D := ds.mergeSort (PySem.W.dataLe false fun d => d)
section
variable {X : Cx} {pins : List (Addr × Obj)} {σ : VS} {H : Hp} {s : Shared}
theorem rps_zip {K : PySem.W.Frag} {H : Hp} : ∀ {vs : List V} {ds : List D}, Rps K H vs ds → (vs.zip ds).map (·.2) = ds ∧ ∀ p ∈ vs.zip ds, Rp K H p.1 p.2
  | _, _, .nil => ⟨rfl, fun p hp => by cases hp⟩
  | _, _, .cons (v := v) (d := d) h r => by
    obtain ⟨h1, h2⟩ := rps_zip r
    refine ⟨by rw [List.zip_cons_cons, List.map_cons, h1], fun p hp => ?_⟩
    rw [List.zip_cons_cons] at hp
    rcases List.mem_cons.mp hp with rfl | hp
    · exact h
    · exact h2 p hp
theorem rps_of_pairs {K : PySem.W.Frag} {H : Hp} : ∀ {ps : List (V × D)}, (∀ p ∈ ps, Rp K H p.1 p.2) → Rps K H (ps.map (·.1)) (ps.map (·.2))
  | [], _ => .nil
  | p :: ps, h => .cons (h p List.mem_cons_self) (rps_of_pairs fun q hq => h q (List.mem_cons_of_mem _ hq))
theorem each_vals (B : X.base.NoSeer) (I : Inv X pins σ H s) : ∀ {vs : List V} {ds : List D} {us : List Value}, Rps X.K H vs ds → Vals vs us →
    PySem.W.EachIs (fun (u : Value) (p : V × D) => RelV p.1 u) us (vs.zip ds) ∧ PySem.W.EachIs (fun (u : Value) (p : V × D) => ∃ as, Reads s.heap u p.2 as) us (vs.zip ds)
  | _, _, _, .nil, r => by cases r; exact ⟨.nil, .nil⟩
  | _, _, _, .cons h1 h2, r => by
    cases r with
    | cons r1 r2 =>
      obtain ⟨a, b⟩ := each_vals B I h2 r2
      obtain ⟨as, q, _⟩ := Rp.reads B I h1 r1
      exact ⟨.cons r1 a, .cons ⟨as, q⟩ b⟩
theorem vals_each : ∀ {ps : List (V × D)} {us : List Value}, PySem.W.EachIs (fun (u : Value) (p : V × D) => RelV p.1 u) us ps → Vals (ps.map (·.1)) us
  | _, _, .nil => .nil
  | _, _, .cons h r => .cons h (vals_each r)
def rSortX (K : PySem.W.Frag) : List V → Hp → VK → Prop := fun vs H Q => ∃ (a : Addr) (xs : List V) (ds : List D), vs = [V.ref a] ∧ Rd H a (.lst xs) ∧ Rps K H xs ds ∧ SortOk ds ∧
  ∀ (zs : List V) (p : Addr), Rps K H zs (sortD ds) → H p = none → Q (.ref p) (upd H p (.lst zs))
theorem cr_sortedX {kk : Nat} (hr : RoomG kk X.A) (B : BaseG X.prog X.base) : CallR X (.builtin "sorted") (rSortX X.K) := by
  intro pins s σ H vs us Q I r h
  obtain ⟨a, xs, ds, rfl, hs, hR, ⟨o1, o2, o3⟩, q⟩ := h
  obtain ⟨its, rv, hl, hz⟩ := I.list (.inl hs)
  rw [Vals.ref1 r]
  obtain ⟨z1, z2⟩ := rps_zip hR
  obtain ⟨e1, e2⟩ := each_vals B.seer I hR rv
  have hu : X.A.units + 64 < cLine := hr.room.units
  have hlz : (xs.zip ds).length = xs.length := by rw [List.length_zip, hR.length]; omega
  refine PySem.W.sorted_data (bs := xs.zip ds) (enc := fun p => p.2) hl.isList e1 e2 (by rw [z1]; exact o1) (by rw [z1]; exact o2) (by rw [hlz]; exact hz) (fun b hb => ?_) fun out h1 h2 => ?_
  · have : b.2 ∈ ds := by rw [← z1]; exact List.mem_map_of_mem hb
    have := o3 _ this
    omega
  · obtain ⟨ep, he'⟩ := PyProof.Rows.sortedAll_at s.heap its out.toArray
    let ps := (xs.zip ds).mergeSort (PySem.W.dataLe false fun p => p.2)
    have pl : ps.length = xs.length := by rw [← hlz]; exact List.length_mergeSort _
    have hps : ∀ p ∈ ps, Rp X.K H p.1 p.2 := fun p hp => z2 p (List.mem_mergeSort.mp hp)
    have e3 : ps.map (·.2) = sortD ds := by
      have := List.map_mergeSort (r := PySem.W.dataLe false fun (p : V × D) => p.2) (s := PySem.W.dataLe false fun (d : D) => d) (f := fun p => p.2) (l := xs.zip ds) (fun _ _ _ _ => rfl)
      rw [z1] at this
      exact this
    have hR2 := rps_of_pairs hps
    rw [e3] at hR2
    have hlen : (ps.map (·.1)).length ≤ sizeLine := by rw [List.length_map, pl]; exact hz
    exact ⟨.ref _, upd H (s.heap.objs.size + 1) (.lst (ps.map (·.1))), I.laid (t' := s.toks) (fun _ _ => PyProof.Rows.sortedAll_old) (Nat.le_succ _) ⟨hlen, out, ep, vals_each h2, he'⟩, rfl, q _ _ hR2 (I.hok.fresh (Nat.le_succ _))⟩
def sortM : CM
  | [.list ds], k => SortOk ds ∧ k (.lst (sortD ds))
  | _, _ => False
theorem call_sortedM {kk : Nat} (hr : RoomG kk X.A) (B : BaseG X.prog X.base) : CallM X (.builtin "sorted") sortM := ⟨_, cr_sortedX hr B, fun ds vs H Qv Q r q k => by
  unfold sortM at q
  split at q
  · next ds =>
    cases r with
    | cons h1 h2 =>
      cases h2
      obtain ⟨a, ys, rfl, g1, g2⟩ := h1.lst
      exact ⟨a, ys, ds, rfl, g1, g2, q.1, fun zs p hz hp => k _ _ _ (.lst hp hz) q.2⟩
  · exact q.elim⟩
end
/-! ### list(range(..)), tuple(range(..)), range(a, b, -1) -/
section
variable {X : Cx} {c : DC} {e a b : Expr} {p p2 pos pos2 : Pos} {tg : Expr}
theorem rps_rgV {K : PySem.W.Frag} {H : Hp} (a b : Int) : Rps K H (rgV a b) (rng a (b - a).toNat) := by
  unfold rgV rng
  have : ∀ l : List Nat, Rps K H (l.map fun i => V.int (a + (i : Nat))) (l.map fun (i : Nat) => PyData.int (a + (i : Nat))) := fun l => by
    induction l with
    | nil => exact .nil
    | cons x l ih => exact .cons (.int _) ih
  exact this _
def dLRg (ta tb : DV) : DM := fun W σ Q => ta W σ fun x σ1 => tb W σ1 fun y σ2 => match x, y with
  | .int i, .int j => RgOk i j ∧ Q (.lst (rng i (j - i).toNat)) σ2
  | _, _ => False
theorem dem_listRg2 {ta tb : DV} (hc : X.calm = true) (hg : Gl X "list") (hm : X.mg "list" = none) (hg2 : Gl X "range") (hm2 : X.mg "range" = none) (ha : DEv X c a ta) (hb : DEv X c b tb)
    (na : starEach [.Call (.Name "range" p2) [a, b] [] pos2] X.env = (false, eval (.Call (.Name "range" p2) [a, b] [] pos2) X.env) :: starEach [] X.env := by rfl)
    (n1 : starEach [a, b] X.env = (false, eval a X.env) :: starEach [b] X.env := by rfl) (n2 : starEach [b] X.env = (false, eval b X.env) :: starEach [] X.env := by rfl) (n3 : (backTo pos2 (starEach [b] X.env)).any (·.1) = false := by rfl) :
    DEm X c (.Call (.Name "list" p) [.Call (.Name "range" p2) [a, b] [] pos2] [] pos) (dLRg ta tb) := fun n W tk => by
  obtain ⟨tv, pa, hra⟩ := ha n W tk
  obtain ⟨uv, pb, hrb⟩ := hb n W tk
  refine ⟨_, pe_listRg hc hg hm (prg_2 hg2 hm2 pa pb n1 n2 n3) na, fun σ σv H Q Qv g up q k => ?_⟩
  refine hra σ σv H _ _ g up q fun d σ1 v H1 g1 x1 r1 q1 => ?_
  refine hrb σ1 σv H1 _ _ g1 (up.trans x1) q1 fun d2 σ2 v2 H2 g2 x2 r2 q2 => ?_
  split at q2
  · next i j =>
    cases r1
    cases r2
    refine ⟨i, j, rfl, rfl, q2.1, fun q hq => ?_⟩
    have sm := Same.new (o := .lst (rgV i j)) hq
    exact k _ _ _ _ (g2.same sm) ((x1.trans x2).trans (Mv.same sm)) (Fresh.mk' (m := .lst (rng i (j - i).toNat)) g2 (x1.trans x2) hq ⟨_, upd_same, rps_rgV i j⟩) q2.2
  · exact q2.elim
def dnr (i : Int) (n : Nat) : List D := (List.range n).map fun (k : Nat) => .int (i - (k : Int))
def iRgD (t : DR) : DA := fun W σ Q => t W σ fun rs σ1 => vws σ1 rs fun ds => match ds with
  | [.int i, .int j, .int k] => (k = -1 ∧ -(2 ^ 62) ≤ i ∧ i < 2 ^ 62 ∧ -(2 ^ 62) ≤ j ∧ j < 2 ^ 62) ∧ Q (dnr i (i - j).toNat) σ1
  | _ => False
theorem itd_dnr {K : PySem.W.Frag} {H : Hp} (lo : Int) (n : Nat) : ItD K (Itc lo (-1) n) (dnr lo n) H := fun i H1 x => by
  have l : (dnr lo n).length = n := by unfold dnr; rw [List.length_map, List.length_range]
  rw [l]
  refine ⟨fun hi => ⟨hi, fun y H' ⟨e, ey⟩ => ?_⟩, fun hi => hi⟩
  subst e ey
  refine ⟨Same.refl _, .int (lo - i), ?_, ?_⟩
  · unfold dnr
    rw [List.getElem?_map, List.getElem?_range hi]
    rfl
  · rw [show lo + (i : Nat) * (-1 : Int) = lo - i by omega]
    exact .int _
theorem di_rngD {e3 : Expr} {t : DR} (hg : Gl X "range") (hm : X.mg "range" = none) (ha : DRs X c [a, b, e3] t) (hs : starEach [a, b, e3] X.env = (false, eval a X.env) :: starEach [b, e3] X.env := by rfl) (hpl : (backTo pos (starEach [b, e3] X.env)).any (·.1) = false := by rfl) : DI X c tg (.Call (.Name "range" p) [a, b, e3] [] pos) (iRgD t) := fun n W tk => by
  obtain ⟨tv, pa, hr⟩ := ha n W tk
  refine ⟨_, pi_range3 hg hm pa hs hpl, fun σ σv H Q R g up q k => ?_⟩
  refine hr σ σv H _ _ g up q fun rs σ1 vs H1 g1 x1 l1 rr q1 => ?_
  obtain ⟨ds, h1, h2⟩ := vws_of g1 l1 rr q1
  split at h2
  · next i j z =>
    cases h1 with
    | cons a r =>
      cases r with
      | cons b r =>
        cases r with
        | cons cc r =>
          cases r
          cases a.int
          cases b.int
          cases cc.int
          obtain ⟨⟨ez, b1, b2, b3, b4⟩, h3⟩ := h2
          subst ez
          exact ⟨i, j, -1, _, rfl, RgC.neg b1 b2 b3 b4, k _ _ _ _ g1 x1 (itd_dnr i (i - j).toNat) h3⟩
  · exact h2.elim
end
end DL
namespace DL
open PySem PySem.Spec PyProof.Rows L2
section
variable {X : Cx} {c : DC} {e : Expr} {pos : Pos}
/-- x op= e, whole numbers that fit -/
def sAugC (C : Int → Int → Prop) (f : Int → Int → Int) (i : Nat) (t : DV) : DTS := fun Dn σ => match σ[i]? with
  | some (.val (.int a)) => t Dn.xn σ fun d σ1 => match d with
    | .int b => C a b ∧ Dn.nx (σ1.set i (.val (.int (f a b))))
    | _ => False
  | _ => False
theorem st_augC (i : Nat) {C : Int → Int → Prop} {f : Int → Int → Int} {op : Operator} (ho : PIp X op (rI C fun i j => .int (f i j))) {t : DV} {x : Str} {pos' : Pos} (hN : X.N.Nodup) (h : DEv X c e t) (hi : X.N[i]? = some x := by rfl) (hx : Loc X.env.scope x := by first | exact Or.inl rfl | exact Or.inr rfl)
    (hf : X.fn x = true ∨ X.env.scope.names.lookup x = some .local := by first | exact .inl rfl | exact .inr rfl | assumption) : DSt X c (.AugAssign (.Name x pos') op e pos) (sAugC C f i t) := fun n W tk => by
  obtain ⟨tv, pe, hr⟩ := h n W tk
  refine ⟨_, ps_aug (i := i) hN hi hx pe ho hf, fun Dn σ σv H Dv ex g up q r => ?_⟩
  subst ex
  unfold sAugC at q
  split at q
  · next a ea =>
    obtain ⟨v0, hv0, r0⟩ := g.val i _ ea
    cases r0
    refine ⟨_, hv0, hr σ σv H _ _ g up q fun d σ1 v H1 g1 x1 r1 q1 => ?_⟩
    cases d <;> first | exact q1.elim | skip
    next b =>
    cases r1
    exact ⟨a, b, rfl, rfl, q1.1, r.nx _ _ _ (g1.setVal (.int _)) (x1.trans Mv.setVal) q1.2⟩
  · exact q.elim
theorem ip_fdivC : PIp X .FloorDiv (rI CDiv fun i j => .int (i / j)) := iop_fdiv
theorem ip_mulC : PIp X .Mult (rI CMul fun i j => .int (i * j)) := iop_mul
def strI (i : Int) : Str := Str.ofString (toString i)
def strD : CD
  | [.int i], k => i.natAbs.log2 < 1920 ∧ k (.str (strI i))
  | _, _ => False
theorem call_strD : CallD X (.type "str") strD := ⟨_, call_str_int, fun ds vs H Qv Q r q k => by
  unfold strD at q
  split at q
  · cases r with
    | cons h1 h2 => cases h2; cases h1.int; exact ⟨_, rfl, q.1, k _ _ _ (.here (.str _)) q.2⟩
  · exact q.elim⟩
end
end DL
namespace DL
open PySem PySem.Spec PyProof.Rows L2
section
variable {X : Cx} {c : DC} {e o : Expr} {es : List Expr} {pos : Pos}
/-! ### texts: f'..', sep.join(..) -/
def dFmt (t : DV) : DV := fun W σ Q => t W σ fun d σ1 => match d with
  | .int i => i.natAbs.log2 < 1920 ∧ Q (.str (strI i)) σ1
  | .str y => y.length ≤ sizeLine ∧ Q (.str y) σ1
  | _ => False
theorem dev_fmt {t : DV} (h : DEv X c e t) : DEv X c (.FormattedValue e (-1) none pos) (dFmt t) := fun n W tk => by
  obtain ⟨tv, pe, hr⟩ := h n W tk
  refine ⟨_, pe_fmt pe, fun σ σv H Q Qv g up q k => ?_⟩
  refine hr σ σv H _ _ g up q fun d σ1 v H1 g1 x1 r1 q1 => ?_
  cases d <;> first | exact q1.elim | skip
  · next i => cases r1; exact .inr ⟨i, rfl, q1.1, k _ _ _ _ g1 x1 (.str _) q1.2⟩
  · next y => cases r1; exact .inl ⟨y, rfl, q1.1, k _ _ _ _ g1 x1 (.str _) q1.2⟩
inductive DJ (X : Cx) (c : DC) : List Expr → List DV → Prop where
  | nil : DJ X c [] []
  | cons {e : Expr} {t : DV} {es : List Expr} {ts : List DV} (h : DEv X c e t) (r : DJ X c es ts) : DJ X c (e :: es) (t :: ts)
def dJs : List DV → Str → DK → DS → (Str → DS → Prop) → Prop
  | [], acc, _, σ, Q => Q acc σ
  | t :: ts, acc, W, σ, Q => t W σ fun d σ1 => match d with
    | .str y => (acc ++ y).length ≤ sizeLine ∧ dJs ts (acc ++ y) W σ1 Q
    | _ => False
theorem dj_run {es : List Expr} {ts : List DV} (h : DJ X c es ts) {n : En} {W : DK} (tk : TK X c n W) : ∃ tvs, PJ X es tvs ∧ ∀ (acc : Str) σ σv H (Q : Str → DS → Prop) (Qv : Str → Hp → Prop), Gd X.K c σ σv H → Up n σ σv H → dJs ts acc W σ Q →
    (∀ out σ' H', Gd X.K c σ' σv H' → Mv σ σv H σ' σv H' → Q out σ' → Qv out H') → tJs tvs acc σv H Qv := by
  induction h with
  | nil => exact ⟨[], .nil, fun acc σ σv H Q Qv g up q k => k _ _ _ g (Mv.refl _ _ _) q⟩
  | cons h r ih =>
    obtain ⟨tv, pe, hr⟩ := h n W tk
    obtain ⟨tvs, pj, hj⟩ := ih
    refine ⟨tv :: tvs, .cons pe pj, fun acc σ σv H Q Qv g up q k => ?_⟩
    refine hr σ σv H _ _ g up q fun d σ1 v H1 g1 x1 r1 q1 => ?_
    cases d <;> first | exact q1.elim | skip
    next y =>
    cases r1
    exact ⟨y, rfl, q1.1, hj _ σ1 σv H1 _ _ g1 (up.trans x1) q1.2 fun out σ2 H2 g2 x2 q2 => k _ _ _ g2 (x1.trans x2) q2⟩
theorem dev_joined {v1 v2 : Expr} {rest : List Expr} {ts : List DV} (h : DJ X c (v1 :: v2 :: rest) ts) : DEv X c (.JoinedStr (v1 :: v2 :: rest) pos) (fun W σ Q => dJs ts Str.empty W σ fun out σ1 => Q (.str out) σ1) := fun n W tk => by
  obtain ⟨tvs, pj, hj⟩ := dj_run h tk
  exact ⟨_, pe_joined pj, fun σ σv H Q Qv g up q k => hj _ σ σv H _ _ g up q fun out σ1 H1 g1 x1 q1 => k _ _ _ _ g1 x1 (.str _) q1⟩
def strsD : List D → Option (List Str)
  | [] => some []
  | .str x :: ds => (strsD ds).map (x :: ·)
  | _ :: _ => none
def strsOf : D → Option (List Str)
  | .list ds => strsD ds
  | .tuple ds => strsD ds
  | _ => none
theorem strs_rps {K : PySem.W.Frag} {H : Hp} : ∀ {vs : List V} {ds : List D} {ys : List Str}, strsD ds = some ys → Rps K H vs ds → vs = ys.map V.str
  | _, _, ys, e, .nil => by cases e; rfl
  | _, d :: ds, ys, e, .cons h r => by
    cases d <;> first | (cases e; done) | skip
    next x =>
    cases h
    have e2 : (strsD ds).map (x :: ·) = some ys := e
    cases hd : strsD ds with
    | none => rw [hd] at e2; cases e2
    | some zs =>
      rw [hd] at e2
      cases e2
      rw [strs_rps hd r]
      rfl
def dJoin (ts te : DV) : DV := fun W σ Q => ts W σ fun a σ1 => (∃ x, a = .str x) ∧ te W σ1 fun l σ2 => match a, strsOf l with
  | .str x, some ys => (ys.map (·.length)).sum + ys.length * x.length ≤ 16777216 ∧ Q (.str (Txt.join x ys)) σ2
  | _, _ => False
theorem dev_join {ts te : DV} {apos cpos : Pos} (ho : DEv X c o ts) (he : DEv X c e te) (hs : starEach [e] X.env = [(false, eval e X.env)] := by rfl) (hbase : attributeBase o "join" X.env (eval o X.env) = eval o X.env := by rfl) (hline : (apos.endLine == cpos.line) = true := by rfl) :
    DEv X c (.Call (.Attribute o "join" apos) [e] [] cpos) (dJoin ts te) := fun n W tk => by
  obtain ⟨ov, po, hro⟩ := ho n W tk
  obtain ⟨tv, pe, hr⟩ := he n W tk
  refine ⟨_, pe_join po pe hs hbase hline, fun σ σv H Q Qv g up q k => ?_⟩
  refine hro σ σv H _ _ g up q fun a σ1 v H1 g1 x1 r1 q1 => ?_
  obtain ⟨⟨x, rfl⟩, q1⟩ := q1
  cases r1
  refine ⟨⟨x, rfl⟩, hr σ1 σv H1 _ _ g1 (up.trans x1) q1 fun l σ2 u H2 g2 x2 r2 q2 => ?_⟩
  cases hl : strsOf l with
  | none => rw [hl] at q2; exact q2.elim
  | some ys =>
    rw [hl] at q2
    cases l <;> first | (cases hl; done) | skip
    · cases r2 with
      | lst h1 h2 => exact ⟨x, _, ys, rfl, rfl, .inl (by rw [← strs_rps hl h2]; exact .inl (rdl_un h1)), q2.1, k _ _ _ _ g2 (x1.trans x2) (.str _) q2.2⟩
    · cases r2 with
      | tup h1 h2 => exact ⟨x, _, ys, rfl, rfl, .inr (by rw [← strs_rps hl h2]; exact SqT.un h1), q2.1, k _ _ _ _ g2 (x1.trans x2) (.str _) q2.2⟩
end
end DL
namespace TL
open PySem PySem.Spec PyProof.Rows L2 DL
section
variable {X : Cx} {c : DC} {EX : DS → Prop} {ε ε1 ε2 ε3 α β γ : Type} {E : ε → DS → Prop} {E1 : ε1 → DS → Prop} {E2 : ε2 → DS → Prop} {E3 : ε3 → DS → Prop}
variable {e a b b3 ec tg : Expr} {pos : Pos} {t : β → D}
/-- sorted, typed -/
def srt (t : β → D) (xs : List β) : List β := xs.mergeSort (PySem.W.dataLe false t)
theorem srt_map (t : β → D) (xs : List β) : sortD (xs.map t) = (srt t xs).map t := by
  have := List.map_mergeSort (r := PySem.W.dataLe false t) (s := PySem.W.dataLe false fun (d : D) => d) (f := t) (l := xs) (fun _ _ _ _ => rfl)
  exact this.symm
theorem cd_sorted : CdCM sortM (dL t) (mL t) (fun _ a k => gd (SortOk (a.map t)) (k (srt t a))) := fun ω a k κ Q q hk => by
  refine ⟨(sat_gd q).1, ?_⟩
  have := hk _ (sat_gd q).2
  rw [srt_map]
  exact this
/-- list(range(a, b)) -/
theorem tn_lrg2 {fa : FE ε ε1 Int} {fb : FE ε1 ε2 Int} (mk : ∀ {t u}, DEv X c a t → DEv X c b u → DEm X c ec (dLRg t u)) (ha : TM X c EX E E1 PyData.int a fa) (hb : TM X c EX E1 E2 PyData.int b fb) :
    TN X c EX E E2 (mL PyData.int) ec (fun ω s k => fa ω s fun x s1 => fb ω s1 fun y s2 => gd (RgOk x y) (k (rg x y) s2)) := by
  obtain ⟨u, ja, ha⟩ := ha
  obtain ⟨v, jb, hb⟩ := hb
  refine ⟨_, mk ja jb, fun ω s σ k κ W Q hE q hk hx => ha ω s σ _ κ W _ hE q (fun x s1 σ1 e1 q1 => hb ω s1 σ1 _ κ W _ e1 q1 (fun y s2 σ2 e2 q2 => ?_) hx) hx⟩
  refine ⟨(sat_gd q2).1, ?_⟩
  rw [rg_map]
  exact hk _ _ _ e2 (sat_gd q2).2
/-- range(a, b, -1) -/
def rgd (lo hi : Int) : List Int := (List.range (lo - hi).toNat).map fun (i : Nat) => lo - (i : Int)
def rgdP {ω : Type} (lo hi : Int) (k : List Int → Pm ω) : Pm ω := if -(2 ^ 62) ≤ lo ∧ lo < 2 ^ 62 ∧ -(2 ^ 62) ≤ hi ∧ hi < 2 ^ 62 then k (rgd lo hi) else .bad
theorem ti_rngD {fa : FE ε ε1 Int} {fb : FE ε1 ε2 Int} {fc : FE ε2 ε3 Int} (mk : ∀ {t}, DRs X c [a, b, b3] t → DI X c tg ec (iRgD t)) (ha : TM X c EX E E1 PyData.int a fa) (hb : TM X c EX E1 E2 PyData.int b fb) (hc : TM X c EX E2 E3 PyData.int b3 fc)
    (hst : starEach [a, b, b3] X.env = (false, eval a X.env) :: starEach [b, b3] X.env := by rfl) (hst2 : starEach [b, b3] X.env = (false, eval b X.env) :: starEach [b3] X.env := by rfl) (hst3 : starEach [b3] X.env = (false, eval b3 X.env) :: starEach [] X.env := by rfl) :
    TI X c EX E E3 PyData.int tg ec (fun ω s k => fa ω s fun x s1 => fb ω s1 fun y s2 => fc ω s2 fun z s3 => gd (z = -1) (rgdP x y fun xs => k xs s3)) := by
  obtain ⟨t, jt, ha⟩ := ha
  obtain ⟨u, ju, hb⟩ := hb
  obtain ⟨v, jv, hc⟩ := hc
  refine ⟨_, mk (dr_cons (de_val jt) (dr_cons (de_val ju) (dr_cons (de_val jv) dr_nil hst3) hst2) hst), fun ω s σ k κ W Q hE q hk hx => ha ω s σ _ κ W _ hE q (fun x s1 σ1 e1 q1 => hb ω s1 σ1 _ κ W _ e1 q1 (fun y s2 σ2 e2 q2 => hc ω s2 σ2 _ κ W _ e2 q2 (fun z s3 σ3 e3 q3 => ?_) hx) hx) hx⟩
  obtain ⟨ez, q4⟩ := sat_gd q3
  subst ez
  show vws σ3 [.d (.int x), .d (.int y), .d (.int (-1))] (fun ds => match ds with
              | [PyData.int i, PyData.int j, PyData.int k] => (k = -1 ∧ -(2 ^ 62) ≤ i ∧ i < 2 ^ 62 ∧ -(2 ^ 62) ≤ j ∧ j < 2 ^ 62) ∧ Q (dnr i (i - j).toNat) σ3
              | _ => False)
  refine vw_view rfl (vw_view rfl (vw_view rfl ?_))
  unfold rgdP at q4
  split at q4
  · next hb' =>
    refine ⟨⟨rfl, hb'⟩, ?_⟩
    have e : dnr x (x - y).toNat = (rgd x y).map PyData.int := by unfold dnr rgd; rw [List.map_map]; rfl
    rw [e]
    exact hk _ _ _ e3 q4
  · exact q4.elim
end
end TL
namespace TL
open PySem PySem.Spec PyProof.Rows L2 DL
section
variable {X : Cx} {c : DC} {EX : DS → Prop} {ε ε1 ε'' α β ρ β₁ γ₁ : Type} {E : ε → DS → Prop} {E1 : ε1 → DS → Prop} {EN : ε'' → DS → Prop} {N : Nd ρ β₁ γ₁}
variable {e : Expr} {st : Stmt} {j : Nat}
theorem ts_augC {C : Int → Int → Prop} {f : Int → Int → Int} {fe : FE ε ε1 Int} {get : ε → Int} {put : Int → ε1 → ε''} (mk : ∀ {u}, DEv X c e u → DSt X c st (sAugC C f j u)) (o : SV E j PyData.int get) (he : TM X c EX E E1 PyData.int e fe) (hs : SS E1 EN j (fun a => .val (PyData.int a)) put) :
    TS X c EX E EN N st (fun ω s kn _ _ _ => fe ω s fun d s1 => gd (C (get s) d) (kn (put (f (get s) d) s1))) := by
  obtain ⟨u, ju, he⟩ := he
  refine ⟨_, mk ju, fun ω s σ kn kr kb kc κ Dn hE q d => ?_⟩
  unfold sAugC
  rw [o.g _ _ hE]
  exact he ω s σ _ κ Dn.xn _ hE q (fun v s1 σ1 e1 q1 => ⟨(sat_gd q1).1, d.nx _ _ (hs.p _ _ _ e1) (sat_gd q1).2⟩) d.xn
theorem cd_strI : CdC strD PyData.int PyData.str (fun _ a k => gd (a.natAbs.log2 < 1920) (k (strI a))) := fun ω a k κ Q q hk => ⟨(sat_gd q).1, hk _ (sat_gd q).2⟩
variable {ss : List Stmt}
theorem tss_conv {f g : FS ε ε'' ρ β₁ γ₁} (h : TSs X c EX E EN N ss f) (e : ∀ (ω : Type) (s : ε) (kn : ε'' → Pm ω) (kr : ρ → Pm ω) (kb : β₁ → Pm ω) (kc : γ₁ → Pm ω), f ω s kn kr kb kc = g ω s kn kr kb kc) : TSs X c EX E EN N ss g := by
  obtain ⟨t, j, h⟩ := h
  exact ⟨t, j, fun ω s σ kn kr kb kc κ Dn hE q d => h ω s σ kn kr kb kc κ Dn hE (by rw [e]; exact q) d⟩
end
end TL
namespace TL
open PySem PySem.Spec PyProof.Rows L2 DL
section
variable {X : Cx} {c : DC} {EX : DS → Prop} {ε ε1 ε2 ε' ε'' α β : Type} {E : ε → DS → Prop} {E1 : ε1 → DS → Prop} {E2 : ε2 → DS → Prop} {E' : ε' → DS → Prop}
variable {e o : Expr} {pos : Pos} {j : Nat}
theorem tm_fmtI {f : FE ε ε' Int} (h : TM X c EX E E' PyData.int e f) : TM X c EX E E' PyData.str (.FormattedValue e (-1) none pos) (fun ω s k => f ω s fun i s' => gd (i.natAbs.log2 < 1920) (k (strI i) s')) := by
  obtain ⟨t, j, h⟩ := h
  exact ⟨_, dev_fmt j, fun ω s σ k κ W Q hE q hk hx => h ω s σ _ κ W _ hE q (fun i s' σ' e' q' => ⟨(sat_gd q').1, hk _ _ _ e' (sat_gd q').2⟩) hx⟩
theorem tm_fmtS {f : FE ε ε' Str} (h : TM X c EX E E' PyData.str e f) : TM X c EX E E' PyData.str (.FormattedValue e (-1) none pos) (fun ω s k => f ω s fun i s' => gd (i.length ≤ sizeLine) (k i s')) := by
  obtain ⟨t, j, h⟩ := h
  exact ⟨_, dev_fmt j, fun ω s σ k κ W Q hE q hk hx => h ω s σ _ κ W _ hE q (fun i s' σ' e' q' => ⟨(sat_gd q').1, hk _ _ _ e' (sat_gd q').2⟩) hx⟩
/-- the parts of f'..' -/
def TJ (X : Cx) (c : DC) (EX : DS → Prop) (E : ε → DS → Prop) (E' : ε' → DS → Prop) (es : List Expr) (f : Str → FE ε ε' Str) : Prop :=
  ∃ ts : List DV, DJ X c es ts ∧ ∀ (acc : Str) (ω : Type) (s : ε) (σ : DS) (k : Str → ε' → Pm ω) (κ : Ka ω) (W : DK) (Q : Str → DS → Prop), E s σ → Sat κ (f acc ω s k) →
    (∀ a s' σ', E' s' σ' → Sat κ (k a s') → Q a σ') → (∀ x σ', EX σ' → κ.X x → W x σ') → dJs ts acc W σ Q
theorem tj_nil : TJ X c EX E E [] (fun acc _ s k => k acc s) := ⟨[], .nil, fun acc ω s σ k κ W Q hE q hk hx => hk _ _ _ hE q⟩
theorem tj_cons {es : List Expr} {f : FE ε ε1 Str} {g : Str → FE ε1 ε' Str} (h : TM X c EX E E1 PyData.str e f) (h2 : TJ X c EX E1 E' es g) : TJ X c EX E E' (e :: es) (fun acc ω s k => f ω s fun y s1 => gd ((acc ++ y).length ≤ sizeLine) (g (acc ++ y) ω s1 k)) := by
  obtain ⟨t, j, h⟩ := h
  obtain ⟨ts, j2, h2⟩ := h2
  exact ⟨t :: ts, .cons j j2, fun acc ω s σ k κ W Q hE q hk hx => h ω s σ _ κ W _ hE q (fun y s1 σ1 e1 q1 => ⟨(sat_gd q1).1, h2 _ ω s1 σ1 k κ W Q e1 (sat_gd q1).2 hk hx⟩) hx⟩
theorem tm_joined {v1 v2 : Expr} {rest : List Expr} {f : Str → FE ε ε' Str} (h : TJ X c EX E E' (v1 :: v2 :: rest) f) : TM X c EX E E' PyData.str (.JoinedStr (v1 :: v2 :: rest) pos) (fun ω s k => f Str.empty ω s k) := by
  obtain ⟨ts, j, h⟩ := h
  exact ⟨_, dev_joined j, fun ω s σ k κ W Q hE q hk hx => h _ ω s σ k κ W _ hE q hk hx⟩
theorem strsD_map (ys : List Str) : strsD (ys.map PyData.str) = some ys := by
  induction ys with
  | nil => rfl
  | cons y ys ih => rw [List.map_cons]; unfold strsD; rw [ih]; rfl
theorem tm_joinL {apos cpos : Pos} {f : FE ε ε1 Str} {g : FE ε1 ε2 (List Str)} (mk : ∀ {ts te : DV}, DEv X c o ts → DEv X c e te → DEv X c (.Call (.Attribute o "join" apos) [e] [] cpos) (dJoin ts te)) (ho : TM X c EX E E1 PyData.str o f) (he : TM X c EX E1 E2 (dL PyData.str) e g) :
    TM X c EX E E2 PyData.str (.Call (.Attribute o "join" apos) [e] [] cpos) (fun ω s k => f ω s fun x s1 => g ω s1 fun ys s2 => gd ((ys.map (·.length)).sum + ys.length * x.length ≤ 16777216) (k (Txt.join x ys) s2)) := by
  obtain ⟨t, j, h⟩ := ho
  obtain ⟨u, j2, h2⟩ := he
  refine ⟨_, mk j j2, fun ω s σ k κ W Q hE q hk hx => h ω s σ _ κ W _ hE q (fun x s1 σ1 e1 q1 => ⟨⟨x, rfl⟩, h2 ω s1 σ1 _ κ W _ e1 q1 (fun ys s2 σ2 e2 q2 => ?_) hx⟩) hx⟩
  have : strsOf (dL PyData.str ys) = some ys := strsD_map ys
  rw [this]
  exact ⟨(sat_gd q2).1, hk _ _ _ e2 (sat_gd q2).2⟩
theorem tm_joinT {apos cpos : Pos} {f : FE ε ε1 Str} {g : FE ε1 ε2 (List Str)} (mk : ∀ {ts te : DV}, DEv X c o ts → DEv X c e te → DEv X c (.Call (.Attribute o "join" apos) [e] [] cpos) (dJoin ts te)) (ho : TM X c EX E E1 PyData.str o f) (he : TM X c EX E1 E2 (dT PyData.str) e g) :
    TM X c EX E E2 PyData.str (.Call (.Attribute o "join" apos) [e] [] cpos) (fun ω s k => f ω s fun x s1 => g ω s1 fun ys s2 => gd ((ys.map (·.length)).sum + ys.length * x.length ≤ 16777216) (k (Txt.join x ys) s2)) := by
  obtain ⟨t, j, h⟩ := ho
  obtain ⟨u, j2, h2⟩ := he
  refine ⟨_, mk j j2, fun ω s σ k κ W Q hE q hk hx => h ω s σ _ κ W _ hE q (fun x s1 σ1 e1 q1 => ⟨⟨x, rfl⟩, h2 ω s1 σ1 _ κ W _ e1 q1 (fun ys s2 σ2 e2 q2 => ?_) hx⟩) hx⟩
  have : strsOf (dT PyData.str ys) = some ys := strsD_map ys
  rw [this]
  exact ⟨(sat_gd q2).1, hk _ _ _ e2 (sat_gd q2).2⟩
end
end TL
/-! What a function over Lean types gives: tools for proofs. -/
namespace TL
open PySem PySem.Spec PyProof.Rows L2 DL
def Ok {α : Type} (m : Pm α) (P : α → Prop) : Prop := ∃ a, m = .ok a ∧ P a
section
variable {α β ε ρ : Type} {P : α → Prop} {Q : β → Prop}
theorem ok_ok {a : α} (h : P a) : Ok (.ok a) P := ⟨a, rfl, h⟩
theorem ok_eq {m : Pm α} {a : α} (h : Ok m fun x => x = a) : m = .ok a := by obtain ⟨b, h1, h2⟩ := h; rw [h1, h2]
theorem eq_ok {m : Pm α} {a : α} (h : m = .ok a) (hp : P a) : Ok m P := ⟨a, h, hp⟩
theorem Ok.mono {m : Pm α} {P' : α → Prop} (h : Ok m P) (hp : ∀ a, P a → P' a) : Ok m P' := let ⟨a, h1, h2⟩ := h; ⟨a, h1, hp a h2⟩
theorem bd_ok (a : α) (k : α → Pm β) : bd (.ok a) k = k a := rfl
theorem bx_ok (a : α) (k : α → Pm β) : bx (.ok a) k = k a := rfl
theorem lt_eq (a : α) (k : α → Pm β) : lt a k = k a := rfl
theorem ok_bd {m : Pm α} {k : α → Pm β} (h : Ok m P) (hk : ∀ a, P a → Ok (k a) Q) : Ok (bd m k) Q := by obtain ⟨a, h1, h2⟩ := h; rw [h1]; exact hk a h2
theorem ok_bx {m : Pm α} {k : α → Pm β} (h : Ok m P) (hk : ∀ a, P a → Ok (k a) Q) : Ok (bx m k) Q := by obtain ⟨a, h1, h2⟩ := h; rw [h1]; exact hk a h2
theorem ok_bde {m : Pm α} {k : α → Pm β} {a : α} (h : m = .ok a) (hk : Ok (k a) Q) : Ok (bd m k) Q := by rw [h]; exact hk
theorem ok_gd {p : Prop} {k : Pm β} (h : p) (hk : Ok k Q) : Ok (gd p k) Q := by rw [gd_ok h]; exact hk
theorem ok_lt {v : α} {k : α → Pm β} (hk : ∀ x, x = v → Ok (k x) Q) : Ok (lt v k) Q := hk v rfl
theorem ok_if {c : Prop} [Decidable c] {a b : Pm β} (ha : c → Ok a Q) (hb : ¬ c → Ok b Q) : Ok (if c then a else b) Q := by split <;> simp_all
theorem ok_ifb {c : Bool} {a b : Pm β} (ha : c = true → Ok a Q) (hb : c = false → Ok b Q) : Ok (if c = true then a else b) Q := by cases c <;> simp_all
theorem atI_mem {xs : List α} {i : Int} (h0 : 0 ≤ i) (h1 : i < xs.length) : ∃ a, atI xs i = some a ∧ a ∈ xs ∧ xs[i.toNat]? = some a := by
  have hl : i.toNat < xs.length := by omega
  refine ⟨xs[i.toNat], ?_, List.getElem_mem hl, List.getElem?_eq_getElem hl⟩
  have e : ixN xs.length i = some i.toNat := by
    unfold ixN
    rw [if_pos h0, if_pos h1]
  unfold atI
  rw [e]
  exact List.getElem?_eq_getElem hl
theorem ok_ix {xs : List α} {i : Int} {k : α → Pm β} (h0 : 0 ≤ i) (h1 : i < xs.length) (hP : ∀ a ∈ xs, P a) (hk : ∀ a, P a → Ok (k a) Q) : Ok (ixP xs i k) Q := by
  obtain ⟨a, e, m, _⟩ := atI_mem h0 h1
  unfold ixP
  rw [e]
  exact hk a (hP a m)
theorem ok_ixe {xs : List α} {i : Int} {k : α → Pm β} {a : α} (h : atI xs i = some a) (hk : Ok (k a) Q) : Ok (ixP xs i k) Q := by
  unfold ixP
  rw [h]
  exact hk
theorem ok_rg {a b : Int} {k : List Int → Pm β} (h : -(2 ^ 62) ≤ a ∧ a < 2 ^ 62 ∧ -(2 ^ 62) ≤ b ∧ b < 2 ^ 62) (hk : Ok (k (rg a b)) Q) : Ok (rgP a b k) Q := by
  unfold rgP
  rw [if_pos h]
  exact hk
theorem ok_ln {xs : List α} {k : Unit → Pm β} (h : xs.length ≤ 16777216) (hk : Ok (k ()) Q) : Ok (lnP xs k) Q := by
  unfold lnP
  rw [if_pos h]
  exact hk
theorem ok_ap {xs : List α} {k : Unit → Pm β} (h : xs.length < 16777216) (hk : Ok (k ()) Q) : Ok (apP xs k) Q := by
  unfold apP
  rw [if_pos h]
  exact hk
theorem rg_len (a b : Int) : (rg a b).length = (b - a).toNat := by unfold rg; rw [List.length_map, List.length_range]
theorem rg_mem {a b x : Int} (h : x ∈ rg a b) : a ≤ x ∧ x < b := by
  unfold rg at h
  obtain ⟨i, h1, rfl⟩ := List.mem_map.mp h
  have := List.mem_range.mp h1
  omega
theorem ok_forF {xs : List α} {s : ε} {b : α → ε → Pm (Fl ε ρ)} (I : ε → Prop) (h : I s) (hb : ∀ x ∈ xs, ∀ s, I s → Ok (b x s) fun fl => ∃ s', fl = .nx s' ∧ I s') : Ok (forF xs s b) fun fl => ∃ s', fl = .nx s' ∧ I s' := by
  induction xs generalizing s with
  | nil => exact ⟨_, rfl, s, rfl, h⟩
  | cons x xs ih =>
    unfold forF
    refine ok_bd (hb x List.mem_cons_self s h) ?_
    rintro _ ⟨s', rfl, hs⟩
    exact ih hs fun y hy => hb y (List.mem_cons_of_mem _ hy)
/-- .. the invariant knows what is left -/
theorem ok_forFr {xs : List α} {s : ε} {b : α → ε → Pm (Fl ε ρ)} (I : List α → ε → Prop) (h : I xs s) (hb : ∀ x r s, I (x :: r) s → Ok (b x s) fun fl => ∃ s', fl = .nx s' ∧ I r s') : Ok (forF xs s b) fun fl => ∃ s', fl = .nx s' ∧ I [] s' := by
  induction xs generalizing s with
  | nil => exact ⟨_, rfl, s, rfl, h⟩
  | cons x xs ih =>
    unfold forF
    refine ok_bd (hb x xs s h) ?_
    rintro _ ⟨s', rfl, hs⟩
    exact ih hs
theorem ok_forN {xs : List α} {s : ε} {b : α → ε → Pm ε} (I : ε → Prop) (h : I s) (hb : ∀ x ∈ xs, ∀ s, I s → Ok (b x s) I) : Ok (forN xs s b) I := by
  induction xs generalizing s with
  | nil => exact ⟨_, rfl, h⟩
  | cons x xs ih =>
    unfold forN
    exact ok_bd (hb x List.mem_cons_self s h) fun s' hs => ih hs fun y hy => hb y (List.mem_cons_of_mem _ hy)
theorem ok_forNr {xs : List α} {s : ε} {b : α → ε → Pm ε} (I : List α → ε → Prop) (h : I xs s) (hb : ∀ x r s, I (x :: r) s → Ok (b x s) (I r)) : Ok (forN xs s b) (I []) := by
  induction xs generalizing s with
  | nil => exact ⟨_, rfl, h⟩
  | cons x xs ih =>
    unfold forN
    exact ok_bd (hb x xs s h) fun s' hs => ih hs
theorem ok_mapS {xs : List α} {s : ε} {b : α → ε → Pm (β × ε)} (I : List α → ε → Prop) (h : I xs s) (hb : ∀ x r s, I (x :: r) s → Ok (b x s) fun p => Q p.1 ∧ I r p.2) : Ok (mapS xs s b) fun p => p.1.length = xs.length ∧ (∀ y ∈ p.1, Q y) ∧ I [] p.2 := by
  induction xs generalizing s with
  | nil => exact ⟨_, rfl, rfl, (by simp), h⟩
  | cons x xs ih =>
    unfold mapS
    refine ok_bx (hb x xs s h) fun p ⟨hq, hs⟩ => ok_bx (ih hs) fun q ⟨h1, h2, h3⟩ => ok_ok ⟨by simp [h1], ?_, h3⟩
    intro y hy
    rcases List.mem_cons.mp hy with rfl | hy
    · exact hq
    · exact h2 y hy
theorem ok_mapP {xs : List α} {b : α → Pm β} {R : α → β → Prop} (hb : ∀ x ∈ xs, Ok (b x) (R x)) : Ok (mapP xs b) fun ys => ys.length = xs.length ∧ ∀ p ∈ xs.zip ys, R p.1 p.2 := by
  induction xs with
  | nil => exact ⟨_, rfl, rfl, (by simp)⟩
  | cons x xs ih =>
    unfold mapP
    refine ok_bx (hb x List.mem_cons_self) fun y hy => ok_bx (ih fun z hz => hb z (List.mem_cons_of_mem _ hz)) fun ys ⟨h1, h2⟩ => ok_ok ⟨by simp [h1], ?_⟩
    intro p hp
    rcases List.mem_cons.mp hp with rfl | hp
    · exact hy
    · exact h2 p hp
theorem mapP_ok {xs : List α} {b : α → Pm β} (g : α → β) (hb : ∀ x ∈ xs, b x = .ok (g x)) : mapP xs b = .ok (xs.map g) := by
  induction xs with
  | nil => rfl
  | cons x xs ih =>
    unfold mapP
    rw [hb x List.mem_cons_self, bx_ok, ih fun z hz => hb z (List.mem_cons_of_mem _ hz), bx_ok]
    rfl
theorem forN_ok {xs : List α} {s : ε} {b : α → ε → Pm ε} (g : ε → α → ε) (I : ε → Prop) (h : I s) (hb : ∀ x ∈ xs, ∀ s, I s → b x s = .ok (g s x) ∧ I (g s x)) : forN xs s b = .ok (xs.foldl g s) ∧ I (xs.foldl g s) := by
  induction xs generalizing s with
  | nil => exact ⟨rfl, h⟩
  | cons x xs ih =>
    unfold forN
    obtain ⟨h1, h2⟩ := hb x List.mem_cons_self s h
    rw [h1, bd_ok]
    exact ih h2 fun y hy => hb y (List.mem_cons_of_mem _ hy)
theorem flm_nx {ω : Type} {s : ε} {kn : ε → Pm ω} {kr : ρ → Pm ω} : flm (.nx s) kn kr = kn s := rfl
theorem flm_rt {ω : Type} {r : ρ} {kn : ε → Pm ω} {kr : ρ → Pm ω} : flm (.rt r) kn kr = kr r := rfl
end

/-! ### sizes -/
theorem mul_fit {a b : Int} (m n : Nat) (ha : a.natAbs < 2 ^ m) (hb : b.natAbs < 2 ^ n) (h0 : 0 < m := by decide) (h1 : 0 < n := by decide) (h : m + n ≤ 1000000 := by decide) : MulFit a b := ⟨(L2.wide_mul ha hb h0 h1 h).ok⟩
/-! ### the greatest divisor -/
theorem gcd_step (x y : Int) (hx : 0 ≤ x) (hy : 0 < y) : Int.gcd y (x.fmod y) = Int.gcd x y := by
  rw [Int.fmod_eq_emod_of_nonneg x (by omega)]
  obtain ⟨a, rfl⟩ := Int.eq_ofNat_of_zero_le hx
  obtain ⟨b, rfl⟩ := Int.eq_ofNat_of_zero_le (Int.le_of_lt hy)
  rw [← Int.natCast_emod, Int.gcd_natCast_natCast, Int.gcd_natCast_natCast, Nat.gcd_comm a b, Nat.gcd_rec b a, Nat.gcd_comm]
/-- the loop of the greatest divisor, whatever its test -/
theorem gcd_loop (t : Int → Bool) (ht : ∀ y, 0 ≤ y → t y = decide (y ≠ 0)) (f : Int × Int × Unit → Pm (Fl (Int × Int × Unit) (Int × Int × Unit))) (hf : ∀ x y, 0 ≤ x → 0 ≤ y → f (x, y, ()) = if t y = true then .ok (.nx (y, x.fmod y, ())) else .ok (.rt (x, y, ()))) (x y : Int) (hx : 0 ≤ x) (hy : 0 ≤ y) : ∃ z, whP f (x, y, ()) = .ok ((Int.gcd x y : Int), z, ()) := by
  have : ∀ (n : Nat) (x y : Int), 0 ≤ x → 0 ≤ y → y.toNat < n → whN f n (x, y, ()) = .ok ((Int.gcd x y : Int), 0, ()) := fun n => by
    induction n with
    | zero => intro x y _ _ h; omega
    | succ n ih =>
      intro x y hx hy h
      unfold whN
      rw [hf x y hx hy, ht y hy]
      by_cases e : y = 0
      · subst e
        rw [decide_eq_false (by simp)]
        show Pm.ok (x, 0, ()) = _
        have : ((Int.gcd x 0 : Nat) : Int) = x := by simp; omega
        rw [this]
      · rw [decide_eq_true e]
        show whN f n (y, x.fmod y, ()) = _
        have hy0 : 0 < y := by omega
        have h1 := Int.fmod_nonneg hx hy
        have h2 := Int.fmod_lt_of_pos x hy0
        rw [ih y (x.fmod y) hy h1 (by omega), gcd_step x y hx hy0]
  exact ⟨0, whP_of (y.toNat + 1) (this _ x y hx hy (by omega)) (by intro h; cases h)⟩
end TL
/-! Shares as rational numbers; how many figures they have. -/
namespace TL
open PySem PySem.Spec PyProof.Rows L2 DL
def shr (q : Rat) : Int × Int := (q.num, (q.den : Int))
/-- figures: top and bottom below 2 ^ n -/
def Sz (n : Nat) (q : Rat) : Prop := q.num.natAbs < 2 ^ n ∧ q.den < 2 ^ n
theorem Sz.mono {n m : Nat} {q : Rat} (h : Sz n q) (hm : n ≤ m) : Sz m q := ⟨Nat.lt_of_lt_of_le h.1 (Nat.pow_le_pow_right (by decide) hm), Nat.lt_of_lt_of_le h.2 (Nat.pow_le_pow_right (by decide) hm)⟩
theorem nat_mul_lt {a b : Nat} {n m : Nat} (ha : a < 2 ^ n) (hb : b < 2 ^ m) : a * b < 2 ^ (n + m) := by
  rw [Nat.pow_add]
  exact Nat.mul_lt_mul'' ha hb
theorem sz_divInt {u d : Int} {n : Nat} (hd : d ≠ 0) (hu : u.natAbs < 2 ^ n) (hd2 : d.natAbs < 2 ^ n) : Sz n (Rat.divInt u d) := by
  obtain ⟨h1, h2⟩ := share_le u d hd
  exact ⟨by omega, by omega⟩
theorem den_ne (q : Rat) : (q.den : Int) ≠ 0 := by have := q.den_pos; omega
theorem add_divInt (p q : Rat) : p + q = Rat.divInt (p.num * q.den + q.num * p.den) (p.den * q.den) := by
  have := Rat.divInt_add_divInt p.num q.num (den_ne p) (den_ne q)
  rw [Rat.num_divInt_den, Rat.num_divInt_den] at this
  exact this
theorem sub_divInt (p q : Rat) : p - q = Rat.divInt (p.num * q.den - q.num * p.den) (p.den * q.den) := by
  have := Rat.divInt_sub_divInt p.num q.num (den_ne p) (den_ne q)
  rw [Rat.num_divInt_den, Rat.num_divInt_den] at this
  exact this
theorem mul_divInt (p q : Rat) : p * q = Rat.divInt (p.num * q.num) (p.den * q.den) := by
  have := Rat.divInt_mul_divInt p.num q.num (d₁ := p.den) (d₂ := q.den)
  rw [Rat.num_divInt_den, Rat.num_divInt_den] at this
  exact this
theorem div_divInt (p q : Rat) : p / q = Rat.divInt (p.num * q.den) (p.den * q.num) := by
  rw [Rat.div_def]
  have h : q⁻¹ = Rat.divInt q.den q.num := by
    have := Rat.inv_divInt q.num q.den
    rw [Rat.num_divInt_den] at this
    exact this
  rw [h]
  have := Rat.divInt_mul_divInt p.num q.den (d₁ := p.den) (d₂ := q.num)
  rw [Rat.num_divInt_den] at this
  exact this
theorem natAbs_mul_lt {a b : Int} {n m : Nat} (ha : a.natAbs < 2 ^ n) (hb : b.natAbs < 2 ^ m) : (a * b).natAbs < 2 ^ (n + m) := by
  rw [Int.natAbs_mul]; exact nat_mul_lt ha hb
theorem den_lt {q : Rat} {n : Nat} (h : Sz n q) : (q.den : Int).natAbs < 2 ^ n := h.2
theorem cross_lt {a b c d : Int} {n m : Nat} (ha : a.natAbs < 2 ^ n) (hb : b.natAbs < 2 ^ m) (hc : c.natAbs < 2 ^ m) (hd : d.natAbs < 2 ^ n) : (a * b + c * d).natAbs < 2 ^ (n + m + 1) ∧ (a * b - c * d).natAbs < 2 ^ (n + m + 1) := by
  have h1 := natAbs_mul_lt ha hb
  have h2 := natAbs_mul_lt hc hd
  rw [Nat.add_comm m n] at h2
  rw [Nat.pow_succ]
  omega
theorem den_mul_ne (p q : Rat) : (p.den : Int) * q.den ≠ 0 := Int.mul_ne_zero (den_ne p) (den_ne q)
theorem sz_add {p q : Rat} {n m : Nat} (hp : Sz n p) (hq : Sz m q) : Sz (n + m + 1) (p + q) := by
  rw [add_divInt]
  exact sz_divInt (den_mul_ne p q) (cross_lt hp.1 (den_lt hq) hq.1 (den_lt hp)).1 (Nat.lt_of_lt_of_le (natAbs_mul_lt (den_lt hp) (den_lt hq)) (Nat.pow_le_pow_right (by decide) (by omega)))
theorem sz_sub {p q : Rat} {n m : Nat} (hp : Sz n p) (hq : Sz m q) : Sz (n + m + 1) (p - q) := by
  rw [sub_divInt]
  exact sz_divInt (den_mul_ne p q) (cross_lt hp.1 (den_lt hq) hq.1 (den_lt hp)).2 (Nat.lt_of_lt_of_le (natAbs_mul_lt (den_lt hp) (den_lt hq)) (Nat.pow_le_pow_right (by decide) (by omega)))
theorem sz_mul {p q : Rat} {n m : Nat} (hp : Sz n p) (hq : Sz m q) : Sz (n + m) (p * q) := by
  rw [mul_divInt]
  exact sz_divInt (den_mul_ne p q) (natAbs_mul_lt hp.1 hq.1) (natAbs_mul_lt (den_lt hp) (den_lt hq))
theorem num_ne {q : Rat} (h : q ≠ 0) : q.num ≠ 0 := fun z => h (by rw [← Rat.num_divInt_den q, z]; simp)
theorem sz_div {p q : Rat} {n m : Nat} (h : q ≠ 0) (hp : Sz n p) (hq : Sz m q) : Sz (n + m) (p / q) := by
  rw [div_divInt]
  exact sz_divInt (Int.mul_ne_zero (den_ne p) (num_ne h)) (natAbs_mul_lt hp.1 (den_lt hq)) (natAbs_mul_lt (den_lt hp) hq.1)
theorem sz_neg {p : Rat} {n : Nat} (hp : Sz n p) : Sz n (-p) := ⟨by rw [Rat.neg_num, Int.natAbs_neg]; exact hp.1, by rw [Rat.neg_den]; exact hp.2⟩
theorem shr_inj {p q : Rat} (h : shr p = shr q) : p = q := by
  have h1 : p.num = q.num := congrArg Prod.fst h
  have h2 : (p.den : Int) = q.den := congrArg Prod.snd h
  exact Rat.ext h1 (by omega)
abbrev eSh : Int × Int → D := dP2 PyData.int PyData.int
theorem shaped_sh (p : Int × Int) : SeqAt.shaped (eSh p) = true := rfl
theorem eqv_sh (p q : Int × Int) : PyData.eqv (eSh p) (eSh q) = decide (p = q) := by
  obtain ⟨a, b⟩ := p
  obtain ⟨c, d⟩ := q
  show PyData.eqv (.tuple [.int a, .int b]) (.tuple [.int c, .int d]) = _
  rw [PyData.eqv, PyData.eqvAll, PyData.eqvAll, PyData.eqvAll, eqv_int, eqv_int, Bool.and_true]
  by_cases h1 : a = c
  · by_cases h2 : b = d
    · simp [h1, h2]
    · simp [h1, h2]
  · simp [h1]
theorem eqv_shr (p q : Rat) : PyData.eqv (eSh (shr p)) (eSh (shr q)) = decide (p = q) := by
  rw [eqv_sh]
  exact decide_eq_decide.mpr ⟨shr_inj, fun h => by rw [h]⟩
/-! two shares, compared -/
section
variable {ω : Type} {p q : Rat} {A B : Pm ω}
theorem gd_sh (p q : Int × Int) (k : Pm ω) : gd (SeqAt.shaped ((dP2 PyData.int PyData.int) p) = true ∧ SeqAt.shaped ((dP2 PyData.int PyData.int) q) = true) k = k := gd_ok ⟨rfl, rfl⟩
theorem ne_if (h : p = q) : gd (SeqAt.shaped ((dP2 PyData.int PyData.int) (shr p)) = true ∧ SeqAt.shaped ((dP2 PyData.int PyData.int) (shr q)) = true) (if (!(PyData.eqv ((dP2 PyData.int PyData.int) (shr p)) ((dP2 PyData.int PyData.int) (shr q)))) = true then A else B) = B := by
  rw [gd_sh, eqv_shr, decide_eq_true h]; rfl
theorem ne_ok (h : p = q) : gd (SeqAt.shaped ((dP2 PyData.int PyData.int) (shr p)) = true ∧ SeqAt.shaped ((dP2 PyData.int PyData.int) (shr q)) = true) (.ok (!(PyData.eqv ((dP2 PyData.int PyData.int) (shr p)) ((dP2 PyData.int PyData.int) (shr q))))) = .ok false := by
  rw [gd_sh, eqv_shr, decide_eq_true h]; rfl
theorem ne_nif (h : p ≠ q) : gd (SeqAt.shaped ((dP2 PyData.int PyData.int) (shr p)) = true ∧ SeqAt.shaped ((dP2 PyData.int PyData.int) (shr q)) = true) (if (!(PyData.eqv ((dP2 PyData.int PyData.int) (shr p)) ((dP2 PyData.int PyData.int) (shr q)))) = true then A else B) = A := by
  rw [gd_sh, eqv_shr, decide_eq_false h]; rfl
theorem if_ff : (if false = true then A else B) = B := rfl
theorem if_tt : (if true = true then A else B) = A := rfl
end
theorem shr_zero : shr 0 = (0, 1) := rfl
theorem shr_one : shr 1 = (1, 1) := rfl
theorem shr_neg (q : Rat) : shr (-q) = (-q.num, (q.den : Int)) := by unfold shr; rw [Rat.neg_num, Rat.neg_den]
theorem shr_fst (q : Rat) : (shr q).1 = q.num := rfl
theorem shr_snd (q : Rat) : (shr q).2 = (q.den : Int) := rfl
theorem mul_szs {a b : Int} {n m : Nat} (ha : a.natAbs < 2 ^ n) (hb : b.natAbs < 2 ^ m) (h : n + m ≤ 8000) : MulFit a b := mul_fit (n + 1) (m + 1) (Nat.lt_of_lt_of_le ha (Nat.pow_le_pow_right (by decide) (by omega))) (Nat.lt_of_lt_of_le hb (Nat.pow_le_pow_right (by decide) (by omega))) (by omega) (by omega) (by omega)
section
variable {so : Int → Int → Pm (Int × Int)} (hso : ∀ u d : Int, d ≠ 0 → d.natAbs < 2 ^ 8000 → so u d = .ok (shr (Rat.divInt u d)))
include hso
theorem plus_core {p q : Rat} {n m : Nat} (hp : Sz n p) (hq : Sz m q) (h : n + m ≤ 8000) : gd (MulFit (shr p).1 (shr q).2) (gd (MulFit (shr q).1 (shr p).2) (gd (MulFit (shr p).2 (shr q).2) (bd (so (((shr p).1 * (shr q).2) + ((shr q).1 * (shr p).2)) ((shr p).2 * (shr q).2)) fun r1 => .ok r1))) = .ok (shr (p + q)) := by
  simp only [shr_fst, shr_snd]
  rw [gd_ok (mul_szs hp.1 (den_lt hq) h), gd_ok (mul_szs hq.1 (den_lt hp) (by omega)), gd_ok (mul_szs (den_lt hp) (den_lt hq) h), hso _ _ (den_mul_ne p q) (Nat.lt_of_lt_of_le (natAbs_mul_lt (den_lt hp) (den_lt hq)) (Nat.pow_le_pow_right (by decide) h)), bd_ok, add_divInt]
theorem less_core {p q : Rat} {n m : Nat} (hp : Sz n p) (hq : Sz m q) (h : n + m ≤ 8000) : gd (MulFit (shr p).1 (shr q).2) (gd (MulFit (shr q).1 (shr p).2) (gd (MulFit (shr p).2 (shr q).2) (bd (so (((shr p).1 * (shr q).2) - ((shr q).1 * (shr p).2)) ((shr p).2 * (shr q).2)) fun r1 => .ok r1))) = .ok (shr (p - q)) := by
  simp only [shr_fst, shr_snd]
  rw [gd_ok (mul_szs hp.1 (den_lt hq) h), gd_ok (mul_szs hq.1 (den_lt hp) (by omega)), gd_ok (mul_szs (den_lt hp) (den_lt hq) h), hso _ _ (den_mul_ne p q) (Nat.lt_of_lt_of_le (natAbs_mul_lt (den_lt hp) (den_lt hq)) (Nat.pow_le_pow_right (by decide) h)), bd_ok, sub_divInt]
theorem times_core {p q : Rat} {n m : Nat} (hp : Sz n p) (hq : Sz m q) (h : n + m ≤ 8000) : gd (MulFit (shr p).1 (shr q).1) (gd (MulFit (shr p).2 (shr q).2) (bd (so ((shr p).1 * (shr q).1) ((shr p).2 * (shr q).2)) fun r1 => .ok r1)) = .ok (shr (p * q)) := by
  simp only [shr_fst, shr_snd]
  rw [gd_ok (mul_szs hp.1 hq.1 h), gd_ok (mul_szs (den_lt hp) (den_lt hq) h), hso _ _ (den_mul_ne p q) (Nat.lt_of_lt_of_le (natAbs_mul_lt (den_lt hp) (den_lt hq)) (Nat.pow_le_pow_right (by decide) h)), bd_ok, mul_divInt]
theorem over_core {p q : Rat} {n m : Nat} (h0 : q ≠ 0) (hp : Sz n p) (hq : Sz m q) (h : n + m ≤ 8000) : gd (MulFit (shr p).1 (shr q).2) (gd (MulFit (shr p).2 (shr q).1) (bd (so ((shr p).1 * (shr q).2) ((shr p).2 * (shr q).1)) fun r1 => .ok r1)) = .ok (shr (p / q)) := by
  simp only [shr_fst, shr_snd]
  rw [gd_ok (mul_szs hp.1 (den_lt hq) h), gd_ok (mul_szs (den_lt hp) hq.1 h), hso _ _ (Int.mul_ne_zero (den_ne p) (num_ne h0)) (Nat.lt_of_lt_of_le (natAbs_mul_lt (den_lt hp) hq.1) (Nat.pow_le_pow_right (by decide) h)), bd_ok, div_divInt]
end
end TL
/-! What can be shown: data whose numbers have up to 1900 bits. -/
namespace TL
open PySem PySem.Spec PyProof.Rows L2 DL
/-- shown well: weight (bits and items) at most w, depth at most p -/
structure NB (w p : Nat) (d : D) : Prop where
  s : d.showable = true
  dp : d.depth ≤ p
  l : d.leavesShort 600 = true
  w : d.weight ≤ w
structure NBL (w p : Nat) (d : List D) : Prop where
  s : PyData.showableAll d = true
  dp : PyData.depthAll d ≤ p
  l : PyData.leavesShortAll 600 d = true
  w : PyData.weightAll d ≤ w
section
variable {w w' w2 p p2 : Nat} {d : D} {ds : List D}
theorem nb_int {i : Int} (k : Nat) (h : i.natAbs < 2 ^ k) (hk : k ≤ 1900) : NB k p (.int i) := by
  have h2 : i.natAbs < 10 ^ 572 := Nat.lt_of_lt_of_le h (Nat.le_trans (Nat.pow_le_pow_right (by decide) hk) (by decide +kernel))
  have hl : i.natAbs ≠ 0 → i.natAbs.log2 < k := fun z => (Nat.log2_lt z).mpr h
  refine ⟨?_, Nat.zero_le _, ?_, ?_⟩
  · rw [PyData.showable]
    refine decide_eq_true ?_
    by_cases z : i.natAbs = 0
    · rw [z]; decide
    · have := hl z; omega
  · rw [PyData.leavesShort]
    refine decide_eq_true ?_
    have e := int_text_length_le10 (k := 572) (by decide) h2
    show (Str.ofString (toString i)).length ≤ 600
    rw [PySem.ofString_length]
    omega
  · rw [PyData.weight]
    split
    · omega
    · next z =>
      have : i.natAbs ≠ 0 := by simpa using z
      have := hl this
      omega
theorem nb_non : NB 0 p .none := ⟨rfl, Nat.zero_le _, rfl, Nat.zero_le _⟩
theorem nb_bl {b : Bool} : NB 0 p (.bool b) := ⟨rfl, Nat.zero_le _, rfl, Nat.zero_le _⟩
theorem nbl_nil : NBL 0 p [] := ⟨rfl, Nat.zero_le _, rfl, Nat.zero_le _⟩
theorem nbl_cons (h : NB w p d) (hs : NBL w' p ds) : NBL (w + 1 + w') p (d :: ds) := by
  refine ⟨?_, ?_, ?_, ?_⟩
  · rw [PyData.showableAll, h.s, hs.s]; rfl
  · rw [PyData.depthAll]; exact Nat.max_le.mpr ⟨h.dp, hs.dp⟩
  · rw [PyData.leavesShortAll, h.l, hs.l]; rfl
  · rw [PyData.weightAll]; have := h.w; have := hs.w; omega
theorem nbl_app {es : List D} (h : NBL w p ds) (hs : NBL w' p es) : NBL (w + w') p (ds ++ es) := by
  induction ds generalizing w with
  | nil => exact ⟨hs.s, hs.dp, hs.l, by have := hs.w; rw [List.nil_append]; omega⟩
  | cons d ds ih =>
    have s := h.s
    have dp := h.dp
    have l := h.l
    have ww := h.w
    rw [PyData.showableAll, Bool.and_eq_true] at s
    rw [PyData.depthAll] at dp
    rw [PyData.leavesShortAll, Bool.and_eq_true] at l
    rw [PyData.weightAll] at ww
    have := ih (w := PyData.weightAll ds) ⟨s.2, by omega, l.2, Nat.le_refl _⟩
    have := nbl_cons (w := d.weight) ⟨s.1, by omega, l.1, Nat.le_refl _⟩ this
    exact ⟨this.s, this.dp, this.l, by have := this.w; rw [List.cons_append]; omega⟩
theorem nb_tup (h : NBL w p ds) : NB w (p + 1) (.tuple ds) := ⟨by rw [PyData.showable]; exact h.s, by rw [PyData.depth]; have := h.dp; omega, by rw [PyData.leavesShort]; exact h.l, by rw [PyData.weight]; exact h.w⟩
theorem nb_lst (h : NBL w p ds) : NB w (p + 1) (.list ds) := ⟨by rw [PyData.showable]; exact h.s, by rw [PyData.depth]; have := h.dp; omega, by rw [PyData.leavesShort]; exact h.l, by rw [PyData.weight]; exact h.w⟩
theorem NB.mono (h : NB w p d) (h1 : w ≤ w2) (h2 : p ≤ p2) : NB w2 p2 d := ⟨h.s, Nat.le_trans h.dp h2, h.l, Nat.le_trans h.w h1⟩
theorem NBL.mono (h : NBL w p ds) (h1 : w ≤ w2) (h2 : p ≤ p2) : NBL w2 p2 ds := ⟨h.s, Nat.le_trans h.dp h2, h.l, Nat.le_trans h.w h1⟩
theorem NB.rep (h : NB w p d) (hw : w ≤ 27000 := by omega) (hp : p ≤ 40 := by omega) : RepOk d := by
  refine ⟨h.s, Nat.le_trans h.dp hp, ?_⟩
  have e := PyData.shown_le 600 (by decide) d h.l
  have e2 := h.w
  have : (600 + 2) * d.weight ≤ 602 * 27000 := Nat.mul_le_mul (Nat.le_refl _) (by omega)
  rw [sizeLine_eq]
  omega
theorem nbl_map {α : Type} {t : α → D} : ∀ {xs : List α}, (∀ x ∈ xs, NB w p (t x)) → NBL (xs.length * (w + 1)) p (xs.map t)
  | [], _ => nbl_nil.mono (Nat.zero_le _) (Nat.le_refl _)
  | x :: xs, h => (nbl_cons (h x List.mem_cons_self) (nbl_map fun y hy => h y (List.mem_cons_of_mem _ hy))).mono (by rw [List.length_cons, Nat.succ_mul]; omega) (Nat.le_refl _)
theorem nb_sh {n : Nat} {q : Rat} (h : Sz n q) (hn : n ≤ 1900 := by omega) : NB (2 * n + 2) (p + 1) ((dP2 PyData.int PyData.int) (shr q)) := (nb_tup (nbl_cons (nb_int n h.1 hn) (nbl_cons (nb_int n (den_lt h) hn) nbl_nil))).mono (by omega) (Nat.le_refl _)
end
end TL
namespace TL
open PySem PySem.Spec PyProof.Rows L2 DL
section
variable {α β γ ε τ ρ : Type}
/-- a loop as a fold; R: what is known of what is left and of the state -/
theorem fold_ok {xs : List α} {t0 : τ} {b : α → ε → Pm ε} (enc : τ → ε) (st : τ → α → τ) (R : List α → τ → Prop) (h0 : R xs t0) (hb : ∀ x r t, R (x :: r) t → b x (enc t) = .ok (enc (st t x)) ∧ R r (st t x)) : forN xs (enc t0) b = .ok (enc (xs.foldl st t0)) ∧ R [] (xs.foldl st t0) := by
  induction xs generalizing t0 with
  | nil => exact ⟨rfl, h0⟩
  | cons x xs ih =>
    unfold forN
    obtain ⟨h1, h2⟩ := hb x xs t0 h0
    rw [h1, bd_ok]
    exact ih h2
theorem forN_map (f : γ → α) (xs : List γ) (s : ε) (b : α → ε → Pm ε) : forN (xs.map f) s b = forN xs s (fun x => b (f x)) := by
  induction xs generalizing s with
  | nil => rfl
  | cons x xs ih =>
    rw [List.map_cons]
    unfold forN
    congr 1
    funext s'
    exact ih s'
theorem mapP_map (f : γ → α) (xs : List γ) (b : α → Pm β) : mapP (xs.map f) b = mapP xs (fun x => b (f x)) := by
  induction xs with
  | nil => rfl
  | cons x xs ih =>
    rw [List.map_cons]
    unfold mapP
    rw [ih]
theorem cs_some {dec : α → Option β} {a : α} {b : β} (h : dec a = some b) (k : β → Pm γ) : cs dec a k = k b := by unfold cs; rw [h]
theorem cs_o (a : α) (k : α → Pm β) : cs decO (some a) k = k a := rfl
theorem decSh_sh (p : Int × Int) : decSh ((dP2 PyData.int PyData.int) p) = some p := rfl
theorem decQ_l (xs : List D) : decQ (.list xs) = some xs := rfl
theorem decQ_t (xs : List D) : decQ (.tuple xs) = some xs := rfl
end
section
variable {β : Type} {Q : β → Prop} {A B : Pm β} {P : Prop} [Decidable P]
theorem ok_nif (h : P) (hB : Ok B Q) : Ok (if (!decide P) = true then A else B) Q := by rw [decide_eq_true h]; exact hB
theorem nif_eq (h : P) : (if (!decide P) = true then A else B) = B := by rw [decide_eq_true h]; rfl
theorem okn (h : P) : (Pm.ok (!decide P)) = .ok false := by rw [decide_eq_true h]; rfl
theorem oky (h : P) : (Pm.ok (decide P)) = .ok true := by rw [decide_eq_true h]
/-- a list of things that are codes is the code of a list -/
theorem lift_list {α γ : Type} {f : α → γ} {P : α → Prop} : ∀ {ys : List γ}, (∀ y ∈ ys, ∃ q, y = f q ∧ P q) → ∃ qs : List α, ys = qs.map f ∧ ∀ q ∈ qs, P q
  | [], _ => ⟨[], rfl, fun _ h => absurd h List.not_mem_nil⟩
  | y :: ys, h => by
    obtain ⟨q, e, hq⟩ := h y List.mem_cons_self
    obtain ⟨qs, e2, h2⟩ := lift_list fun z hz => h z (List.mem_cons_of_mem _ hz)
    exact ⟨q :: qs, by rw [e, e2]; rfl, fun z hz => by
      rcases List.mem_cons.mp hz with rfl | hz
      · exact hq
      · exact h2 z hz⟩
end
/-! ### sums, the least and the greatest, what makes whole -/
def sumR (qs : List Rat) : Rat := qs.foldl (· + ·) 0
def loSt (o : Option Rat) (q : Rat) : Option Rat := match o with
  | none => some q
  | some r => if q < r then some q else some r
def hiSt (o : Option Rat) (q : Rat) : Option Rat := match o with
  | none => some q
  | some r => if r < q then some q else some r
def loR (qs : List Rat) : Option Rat := qs.foldl loSt none
def hiR (qs : List Rat) : Option Rat := qs.foldl hiSt none
def whSt (n : Nat) (q : Rat) : Nat := n.lcm q.den
def whR (qs : List Rat) : Nat := qs.foldl whSt 1
theorem wh_step (n d : Nat) (hn : 0 < n) (hd : 0 < d) : ((n : Int) * (d : Int)).fdiv (Int.gcd (n : Int) (d : Int) : Int) = (n.lcm d : Nat) := by
  rw [Int.gcd_natCast_natCast, Int.fdiv_eq_ediv_of_nonneg _ (by omega), ← Int.natCast_mul, ← Int.natCast_ediv]
  rfl
theorem sq_lt {a b : Rat} {n : Nat} (ha : Sz n a) (hb : Sz n b) (hn : n ≤ 4000) {β : Type} (k : Bool → Pm β) : gd (MulFit (shr a).1 (shr b).2) (gd (MulFit (shr b).1 (shr a).2) (k (decide ((shr a).1 * (shr b).2 < (shr b).1 * (shr a).2)))) = k (decide (a < b)) := by
  simp only [shr_fst, shr_snd]
  rw [gd_ok (mul_szs ha.1 (den_lt hb) (by omega)), gd_ok (mul_szs hb.1 (den_lt ha) (by omega))]
  congr 1
  exact decide_eq_decide.mpr (Rat.lt_iff a b).symm
theorem lo_all {P : Rat → Prop} {qs : List Rat} {o : Option Rat} (ho : ∀ q, o = some q → P q) (h : ∀ q ∈ qs, P q) : ∀ q, qs.foldl loSt o = some q → P q := by
  induction qs generalizing o with
  | nil => exact ho
  | cons x xs ih =>
    refine ih (fun q e => ?_) fun q hq => h q (List.mem_cons_of_mem _ hq)
    unfold loSt at e
    split at e
    · cases e; exact h x List.mem_cons_self
    · next r =>
      split at e
      · cases e; exact h x List.mem_cons_self
      · cases e; exact ho _ rfl
theorem hi_all {P : Rat → Prop} {qs : List Rat} {o : Option Rat} (ho : ∀ q, o = some q → P q) (h : ∀ q ∈ qs, P q) : ∀ q, qs.foldl hiSt o = some q → P q := by
  induction qs generalizing o with
  | nil => exact ho
  | cons x xs ih =>
    refine ih (fun q e => ?_) fun q hq => h q (List.mem_cons_of_mem _ hq)
    unfold hiSt at e
    split at e
    · cases e; exact h x List.mem_cons_self
    · next r =>
      split at e
      · cases e; exact h x List.mem_cons_self
      · cases e; exact ho _ rfl
end TL
namespace LW
open PySem PySem.Spec PyProof.Rows L2 DL TL
/-! ### cuts at a place -/
theorem cut_to {α : Type} {xs : List α} {i : Int} (h0 : 0 ≤ i) (h1 : i ≤ xs.length) : cut xs none (some i) = xs.take i.toNat := by
  unfold cut HT.sIx
  simp only [List.drop_zero, Nat.sub_zero]
  rw [if_neg (by omega), Nat.min_eq_left (by omega)]
theorem cut_from {α : Type} {xs : List α} {i : Int} (h0 : 0 ≤ i) (h1 : i ≤ xs.length) : cut xs (some i) none = xs.drop i.toNat := by
  unfold cut HT.sIx
  dsimp only
  have e : ∀ n : Nat, n = i.toNat → (xs.drop n).take (xs.length - n) = xs.drop i.toNat := by
    rintro n rfl
    exact List.take_of_length_le (by rw [List.length_drop]; omega)
  exact e _ (by rw [if_neg (by omega), Nat.min_eq_left (by omega)])
/-! ### sums -/
theorem sum_fold (qs : List Rat) : ∀ r : Rat, qs.foldl (· + ·) r = r + qs.foldl (· + ·) 0 := by
  induction qs with
  | nil => intro r; exact (Rat.add_zero r).symm
  | cons x xs ih => intro r; rw [List.foldl_cons, List.foldl_cons, ih (r + x), ih (0 + x)]; grind
theorem sum_nil : sumR [] = 0 := rfl
theorem sum_cons (x : Rat) (xs : List Rat) : sumR (x :: xs) = x + sumR xs := by unfold sumR; rw [List.foldl_cons, sum_fold]; grind
theorem sum_app (xs ys : List Rat) : sumR (xs ++ ys) = sumR xs + sumR ys := by
  induction xs with
  | nil => rw [List.nil_append, sum_nil]; grind
  | cons x xs ih => rw [List.cons_append, sum_cons, sum_cons, ih]; grind
theorem sum_rev (xs : List Rat) : sumR xs.reverse = sumR xs := by
  induction xs with
  | nil => rfl
  | cons x xs ih => rw [List.reverse_cons, sum_app, ih, sum_cons, sum_cons, sum_nil]; grind
theorem sum_mul (xs : List Rat) (p : Rat) : sumR (xs.map (· * p)) = sumR xs * p := by
  induction xs with
  | nil => rw [List.map_nil, sum_nil]; grind
  | cons x xs ih => rw [List.map_cons, sum_cons, sum_cons, ih]; grind
theorem sum_plus (xs : List Rat) (p : Rat) : sumR (xs.map (· + p)) = sumR xs + p * (xs.length : Nat) := by
  induction xs with
  | nil => rw [List.map_nil, sum_nil, List.length_nil]; grind
  | cons x xs ih => rw [List.map_cons, sum_cons, sum_cons, ih, List.length_cons, Rat.natCast_add]; grind
theorem sum_lo (xs : List Rat) (m : Rat) (h : ∀ q ∈ xs, m ≤ q) : m * (xs.length : Nat) ≤ sumR xs := by
  induction xs with
  | nil => rw [sum_nil, List.length_nil]; grind
  | cons x xs ih =>
    have h1 := h x List.mem_cons_self
    have h2 := ih fun q hq => h q (List.mem_cons_of_mem _ hq)
    rw [sum_cons, List.length_cons, Rat.natCast_add]
    grind
theorem sum_hi (xs : List Rat) (m : Rat) (h : ∀ q ∈ xs, q ≤ m) : sumR xs ≤ m * (xs.length : Nat) := by
  induction xs with
  | nil => rw [sum_nil, List.length_nil]; grind
  | cons x xs ih =>
    have h1 := h x List.mem_cons_self
    have h2 := ih fun q hq => h q (List.mem_cons_of_mem _ hq)
    rw [sum_cons, List.length_cons, Rat.natCast_add]
    grind
theorem sum_ints (zs : List Int) : sumR (zs.map fun (z : Int) => (z : Rat)) = ((zs.sum : Int) : Rat) := by
  induction zs with
  | nil => rfl
  | cons z zs ih => rw [List.map_cons, sum_cons, ih, List.sum_cons, Rat.intCast_add]
/-! ### what a share is a whole number of -/
theorem mul_den (q : Rat) : q * ((q.den : Nat) : Rat) = (q.num : Rat) := by
  have h : (q.num : Rat) / ((q.den : Nat) : Rat) = q := by
    have := Rat.num_divInt_den q
    rw [Rat.divInt_eq_div] at this
    exact this
  have h2 : ((q.den : Nat) : Rat) ≠ 0 := by
    intro z
    have := Rat.natCast_inj (a := q.den) (b := 0)
    exact q.den_nz (this.mp z)
  grind
theorem den_dvd (q : Rat) (m : Nat) : q.den ∣ m ↔ ∃ z : Int, q * (m : Rat) = (z : Rat) := by
  constructor
  · rintro ⟨k, rfl⟩
    refine ⟨q.num * k, ?_⟩
    rw [Rat.natCast_mul, Rat.intCast_mul, ← Rat.mul_assoc, mul_den]
    rfl
  · rintro ⟨z, h⟩
    have h2 : ((q.num * (m : Int) : Int) : Rat) = ((z * (q.den : Int) : Int) : Rat) := by
      rw [Rat.intCast_mul, Rat.intCast_mul, ← h, ← mul_den]
      show q * ((q.den : Nat) : Rat) * ((m : Nat) : Rat) = q * ((m : Nat) : Rat) * ((q.den : Nat) : Rat)
      grind
    have h3 := Rat.intCast_inj.mp h2
    have h4 : q.den ∣ (q.num * (m : Int)).natAbs := by rw [h3, Int.natAbs_mul, Int.natAbs_natCast]; exact Nat.dvd_mul_left ..
    rw [Int.natAbs_mul, Int.natAbs_natCast] at h4
    exact (Nat.Coprime.symm q.reduced).dvd_of_dvd_mul_left h4
theorem wh_dvd {m : Nat} : ∀ {qs : List Rat} {n : Nat}, qs.foldl whSt n ∣ m ↔ n ∣ m ∧ ∀ q ∈ qs, q.den ∣ m
  | [], n => by simp
  | x :: qs, n => by
    rw [List.foldl_cons, wh_dvd]
    unfold whSt
    rw [Nat.lcm_dvd_iff, List.forall_mem_cons, and_assoc]
theorem whR_dvd {qs : List Rat} {m : Nat} : whR qs ∣ m ↔ ∀ q ∈ qs, q.den ∣ m := by
  unfold whR
  rw [wh_dvd]
  simp
theorem den_whR {qs : List Rat} {q : Rat} (h : q ∈ qs) : q.den ∣ whR qs := whR_dvd.mp (Nat.dvd_refl _) q h
theorem sum_den {qs : List Rat} {m : Nat} (h : ∀ q ∈ qs, q.den ∣ m) : (sumR qs).den ∣ m := by
  induction qs with
  | nil => exact Nat.one_dvd _
  | cons x xs ih =>
    obtain ⟨a, ha⟩ := (den_dvd _ _).mp (h x List.mem_cons_self)
    obtain ⟨b, hb⟩ := (den_dvd _ _).mp (ih fun q hq => h q (List.mem_cons_of_mem _ hq))
    rw [sum_cons, den_dvd]
    exact ⟨a + b, by rw [Rat.add_mul, ha, hb, Rat.intCast_add]⟩
theorem wh_sub {xs ys : List Rat} (h : ∀ x ∈ xs, x ∈ ys) : whR xs ∣ whR ys := whR_dvd.mpr fun q hq => den_whR (h q hq)
theorem wh_same {xs ys : List Rat} (h : ∀ y ∈ ys, y.den ∣ whR xs) : whR (xs ++ ys) = whR xs := by
  refine Nat.dvd_antisymm (whR_dvd.mpr fun q hq => ?_) (wh_sub fun x hx => List.mem_append_left _ hx)
  rcases List.mem_append.mp hq with h1 | h1
  · exact den_whR h1
  · exact h q h1
theorem fmod_dvd {a b : Nat} (h : b ∣ a) : ((a : Int)).fmod (b : Int) = 0 := by
  rw [Int.fmod_eq_emod_of_nonneg _ (by omega)]
  exact Int.emod_eq_zero_of_dvd (by exact Int.natCast_dvd_natCast.mpr h)
theorem shr_nat (n : Nat) : shr (n : Rat) = ((n : Int), 1) := rfl
theorem shr_int (n : Int) : shr (n : Rat) = (n, 1) := rfl
theorem sz_nat {n k : Nat} (h : n < 2 ^ k) (h0 : 0 < k := by decide) : Sz k (n : Rat) := ⟨by show ((n : Int)).natAbs < _; simpa using h, by show 1 < 2 ^ k; exact Nat.one_lt_two_pow (by omega)⟩
end LW
namespace LW
open PySem PySem.Spec PyProof.Rows L2 DL TL
/-! ### polynomials as lists of shares -/
def trimR (qs : List Rat) : List Rat := (qs.reverse.dropWhile fun q => decide (q = 0)).reverse
theorem trim_nil : trimR [] = [] := rfl
theorem trim_app (qs : List Rat) (q : Rat) : trimR (qs ++ [q]) = if q = 0 then trimR qs else qs ++ [q] := by
  unfold trimR
  rw [List.reverse_append, List.reverse_singleton, List.singleton_append, List.dropWhile_cons]
  by_cases h : q = 0
  · rw [if_pos (decide_eq_true h), if_pos h]
  · rw [if_neg (by simpa using h), if_neg h, List.reverse_cons, List.reverse_reverse]
theorem rev_ind {α : Type} {P : List α → Prop} (h0 : P []) (h1 : ∀ xs x, P xs → P (xs ++ [x])) (xs : List α) : P xs := by
  have : ∀ ys : List α, P ys.reverse := fun ys => by
    induction ys with
    | nil => exact h0
    | cons y ys ih => rw [List.reverse_cons]; exact h1 _ _ ih
  have := this xs.reverse
  rwa [List.reverse_reverse] at this
theorem trim_take (qs : List Rat) : ∃ n, n ≤ qs.length ∧ trimR qs = qs.take n := by
  induction qs using rev_ind with
  | h0 => exact ⟨0, Nat.le_refl _, rfl⟩
  | h1 qs q ih =>
    rw [trim_app]
    split
    · obtain ⟨n, h1, h2⟩ := ih
      exact ⟨n, by rw [List.length_append]; omega, by rw [h2, List.take_append_of_le_length h1]⟩
    · exact ⟨(qs ++ [q]).length, Nat.le_refl _, by rw [List.take_length]⟩
theorem trim_len (qs : List Rat) : (trimR qs).length ≤ qs.length := by
  obtain ⟨n, h1, h2⟩ := trim_take qs
  rw [h2, List.length_take]; omega
theorem trim_mem {qs : List Rat} {q : Rat} (h : q ∈ trimR qs) : q ∈ qs := by
  obtain ⟨n, h1, h2⟩ := trim_take qs
  rw [h2] at h
  exact List.mem_of_mem_take h
/-- a polynomial's share at a power -/
def co (qs : List Rat) (n : Nat) : Rat := qs.getD n 0
theorem co_nil (n : Nat) : co [] n = 0 := by unfold co; simp
theorem co_app (qs : List Rat) (q : Rat) (n : Nat) : co (qs ++ [q]) n = if n = qs.length then q else co qs n := by
  unfold co
  by_cases h : n < qs.length
  · rw [if_neg (by omega)]; simp [List.getD_eq_getElem?_getD, List.getElem?_append_left h]
  · by_cases h2 : n = qs.length
    · rw [if_pos h2, h2]; simp [List.getD_eq_getElem?_getD]
    · rw [if_neg h2]
      simp [List.getD_eq_getElem?_getD]
      rw [List.getElem?_eq_none (by simp; omega), List.getElem?_eq_none (by omega)]
theorem co_trim (qs : List Rat) (n : Nat) : co (trimR qs) n = co qs n := by
  induction qs using rev_ind with
  | h0 => rfl
  | h1 qs q ih =>
    rw [trim_app]
    split
    · next h =>
      rw [ih, co_app]
      split
      · next e => rw [e, h]; unfold co; simp
      · rfl
    · rfl
theorem co_out {qs : List Rat} {n : Nat} (h : qs.length ≤ n) : co qs n = 0 := by unfold co; rw [List.getD_eq_getElem?_getD, List.getElem?_eq_none h]; rfl
/-- without noughts at its end -/
def Trim (qs : List Rat) : Prop := ∀ q, qs.getLast? = some q → q ≠ 0
theorem trim_trim (qs : List Rat) : Trim (trimR qs) := by
  induction qs using rev_ind with
  | h0 => intro q h; cases h
  | h1 qs q ih =>
    rw [trim_app]
    split
    · exact ih
    · next h => intro x hx; simp at hx; subst hx; exact h
theorem trim_of {qs : List Rat} (h : Trim qs) : trimR qs = qs := by
  induction qs using rev_ind with
  | h0 => rfl
  | h1 qs q ih => rw [trim_app, if_neg (h q (by simp))]
/-- trimmed ones with the same shares are the same -/
theorem trim_ext {ps qs : List Rat} (hp : Trim ps) (hq : Trim qs) (h : ∀ n, co ps n = co qs n) : ps = qs := by
  have aux : ∀ {ps qs : List Rat}, Trim ps → (∀ n, co ps n = co qs n) → ps.length ≤ qs.length := fun {ps qs} hp h => by
    apply Classical.byContradiction
    intro hl
    have hne : ps ≠ [] := by intro e; subst e; simp at hl
    have h1 := h (ps.length - 1)
    rw [co_out (qs := qs) (by omega)] at h1
    refine hp (ps.getLast hne) (List.getLast?_eq_some_getLast hne) ?_
    rw [← h1]
    unfold co
    rw [List.getD_eq_getElem?_getD, List.getElem?_eq_getElem (by have := List.length_pos_iff.mpr hne; omega), Option.getD_some, List.getLast_eq_getElem]
  have e : ps.length = qs.length := Nat.le_antisymm (aux hp h) (aux hq fun n => (h n).symm)
  apply List.ext_getElem e
  intro n h1 h2
  have := h n
  unfold co at this
  rwa [List.getD_eq_getElem?_getD, List.getD_eq_getElem?_getD, List.getElem?_eq_getElem h1, List.getElem?_eq_getElem h2] at this
theorem trim_eq {ps qs : List Rat} (h : ∀ n, co ps n = co qs n) : trimR ps = trimR qs := trim_ext (trim_trim _) (trim_trim _) fun n => by rw [co_trim, co_trim]; exact h n
/-- the loop that leaves out the noughts at the end -/
theorem trim_loop {f : List (Int × Int) × Unit → Pm (Fl (List (Int × Int) × Unit) (List (Int × Int) × Unit))} (hn : f ([], ()) = .ok (.rt ([], ())))
    (hc : ∀ (qs : List Rat) (q : Rat), f ((qs ++ [q]).map shr, ()) = if q = 0 then .ok (.nx (qs.map shr, ())) else .ok (.rt ((qs ++ [q]).map shr, ()))) (qs : List Rat) : whP f (qs.map shr, ()) = .ok ((trimR qs).map shr, ()) := by
  have : whN f (qs.length + 1) (qs.map shr, ()) = .ok ((trimR qs).map shr, ()) := by
    induction qs using rev_ind with
    | h0 => unfold whN; rw [List.map_nil, hn, bd_ok]; rfl
    | h1 qs q ih =>
      unfold whN
      rw [hc, trim_app]
      by_cases h : q = 0
      · rw [if_pos h, if_pos h, bd_ok]
        rw [List.length_append] at *
        exact ih
      · rw [if_neg h, if_neg h, bd_ok]
  exact whP_of _ this (by intro h; cases h)
theorem lay_shs (ps : List (Int × Int)) : PyData.canLayAll0 (ps.map (dP2 PyData.int PyData.int)) = true ∧ PyData.depthAll (ps.map (dP2 PyData.int PyData.int)) ≤ 1 := by
  induction ps with
  | nil => exact ⟨rfl, Nat.zero_le _⟩
  | cons c cs ih =>
    rw [List.map_cons, PyData.canLayAll0, PyData.depthAll, ih.1]
    have h1 : ((dP2 PyData.int PyData.int) c).canLay0 = true := rfl
    have h2 : ((dP2 PyData.int PyData.int) c).depth = 1 := rfl
    rw [h1, h2]
    exact ⟨rfl, by have := ih.2; omega⟩
theorem shaped_lsh (ps : List (Int × Int)) : SeqAt.shaped ((dL (dP2 PyData.int PyData.int)) ps) = true := by
  obtain ⟨h1, h2⟩ := lay_shs ps
  show SeqAt.shaped (.list (ps.map (dP2 PyData.int PyData.int))) = true
  unfold SeqAt.shaped
  rw [PyData.canLay0, PyData.depth, h1]
  simp only [Bool.true_and, decide_eq_true_eq]
  omega
theorem shaped_tsh (ps : List (Int × Int)) : SeqAt.shaped ((dT (dP2 PyData.int PyData.int)) ps) = true := by
  obtain ⟨h1, h2⟩ := lay_shs ps
  show SeqAt.shaped (.tuple (ps.map (dP2 PyData.int PyData.int))) = true
  unfold SeqAt.shaped
  rw [PyData.canLay0, PyData.depth, h1]
  simp only [Bool.true_and, decide_eq_true_eq]
  omega
theorem atI_last {α : Type} (xs : List α) (x : α) : atI (xs ++ [x]) (-(1 : Int)) = some x := by
  unfold atI ixN
  rw [if_neg (by decide), if_pos (by rw [List.length_append, List.length_singleton]; omega)]
  have : (-(1 : Int) + ((xs ++ [x]).length : Nat)).toNat = xs.length := by rw [List.length_append, List.length_singleton]; omega
  simp only [Option.bind_some]
  rw [this]
  simp
theorem trim_step0 :
    bd (gd (SeqAt.shaped ((dL (dP2 PyData.int PyData.int)) ([] : List (Int × Int))) = true ∧ SeqAt.shaped ((dL (dP2 PyData.int PyData.int)) ([] : List (Int × Int))) = true) (if (!(PyData.eqv ((dL (dP2 PyData.int PyData.int)) ([] : List (Int × Int))) ((dL (dP2 PyData.int PyData.int)) ([] : List (Int × Int))))) = true then ixP ([] : List (Int × Int)) (-(1 : Int)) fun x9 => gd (SeqAt.shaped ((dP2 PyData.int PyData.int) x9) = true ∧ SeqAt.shaped ((dP2 PyData.int PyData.int) ((0 : Int), (1 : Int))) = true) (.ok (PyData.eqv ((dP2 PyData.int PyData.int) x9) ((dP2 PyData.int PyData.int) ((0 : Int), (1 : Int))))) else .ok false)) (fun (z10 : Bool) => if z10 = true then gd (([] : List (Int × Int)) ≠ []) (Pm.ok (Fl.nx (([] : List (Int × Int)).dropLast, ()))) else .ok (Fl.rt (([] : List (Int × Int)), ())))
    = Pm.ok (.rt ([], ())) := by
  rw [gd_ok ⟨rfl, rfl⟩]
  rfl
theorem trim_step (qs : List Rat) (q : Rat) :
    bd (gd (SeqAt.shaped ((dL (dP2 PyData.int PyData.int)) ((qs ++ [q]).map shr)) = true ∧ SeqAt.shaped ((dL (dP2 PyData.int PyData.int)) ([] : List (Int × Int))) = true) (if (!(PyData.eqv ((dL (dP2 PyData.int PyData.int)) ((qs ++ [q]).map shr)) ((dL (dP2 PyData.int PyData.int)) ([] : List (Int × Int))))) = true then ixP ((qs ++ [q]).map shr) (-(1 : Int)) fun x9 => gd (SeqAt.shaped ((dP2 PyData.int PyData.int) x9) = true ∧ SeqAt.shaped ((dP2 PyData.int PyData.int) ((0 : Int), (1 : Int))) = true) (.ok (PyData.eqv ((dP2 PyData.int PyData.int) x9) ((dP2 PyData.int PyData.int) ((0 : Int), (1 : Int))))) else .ok false)) (fun (z10 : Bool) => if z10 = true then gd ((qs ++ [q]).map shr ≠ []) (Pm.ok (Fl.nx (((qs ++ [q]).map shr).dropLast, ()))) else .ok (Fl.rt ((qs ++ [q]).map shr, ())))
    = if q = 0 then Pm.ok (.nx (qs.map shr, ())) else .ok (.rt ((qs ++ [q]).map shr, ())) := by
  have s1 : SeqAt.shaped ((dL (dP2 PyData.int PyData.int)) ((qs ++ [q]).map shr)) = true := by
    exact shaped_lsh _
  have e1 : PyData.eqv ((dL (dP2 PyData.int PyData.int)) ((qs ++ [q]).map shr)) ((dL (dP2 PyData.int PyData.int)) ([] : List (Int × Int))) = false := by
    cases qs <;> rfl
  have e2 : atI ((qs ++ [q]).map shr) (-(1 : Int)) = some (shr q) := by
    rw [List.map_append]
    exact atI_last _ _
  rw [gd_ok ⟨s1, rfl⟩, e1, Bool.not_false, if_tt]
  unfold ixP
  rw [e2]
  dsimp only
  rw [show ((0 : Int), (1 : Int)) = shr 0 from rfl, gd_sh, eqv_shr, bd_ok]
  by_cases h : q = 0
  · rw [decide_eq_true h, if_tt, if_pos h, gd_ok (by simp)]
    rw [List.map_append, List.map_singleton, List.dropLast_concat]
  · rw [decide_eq_false h, if_ff, if_neg h]
/-! ### the worth at a place -/
def evalR (qs : List Rat) (x : Rat) : Rat := qs.foldr (fun q f => f * x + q) 0
theorem eval_rev (qs : List Rat) (x : Rat) : qs.reverse.foldl (fun f q => f * x + q) 0 = evalR qs x := by rw [List.foldl_reverse]; rfl
def powL : List Rat → Rat → Rat → List Rat
  | [], _, _ => []
  | q :: qs, x, p => q * p :: powL qs x (p * x)
theorem powL_sum : ∀ (qs : List Rat) (x p : Rat), sumR (powL qs x p) = p * evalR qs x
  | [], x, p => by show sumR [] = p * 0; rw [sum_nil]; grind
  | q :: qs, x, p => by
    show sumR (q * p :: powL qs x (p * x)) = p * (evalR qs x * x + q)
    rw [sum_cons, powL_sum qs x (p * x)]
    grind
theorem powL_len : ∀ (qs : List Rat) (x p : Rat), (powL qs x p).length = qs.length
  | [], _, _ => rfl
  | _ :: qs, x, p => congrArg (· + 1) (powL_len qs x (p * x))
def duSt (x : Rat) (t : List Rat × Rat) (q : Rat) : List Rat × Rat := (t.1 ++ [q * t.2], t.2 * x)
theorem du_fold (x : Rat) : ∀ (qs : List Rat) (t : List Rat × Rat), (qs.foldl (duSt x) t).1 = t.1 ++ powL qs x t.2
  | [], t => by show t.1 = t.1 ++ []; rw [List.append_nil]
  | q :: qs, t => by
    rw [List.foldl_cons, du_fold x qs]
    show (t.1 ++ [q * t.2]) ++ powL qs x (t.2 * x) = t.1 ++ (q * t.2 :: powL qs x (t.2 * x))
    rw [List.append_assoc]; rfl
theorem powL_sz {n m : Nat} {x : Rat} (hx : Sz m x) : ∀ {qs : List Rat} {p : Rat} {k : Nat}, (∀ q ∈ qs, Sz n q) → Sz k p → ∀ z ∈ powL qs x p, Sz (n + k + m * (qs.length - 1)) z
  | [], p, k, _, _ => fun z hz => by cases hz
  | [q], p, k, h, hp => fun z hz => by
    rcases List.mem_cons.mp hz with rfl | hz
    · exact (sz_mul (h q List.mem_cons_self) hp).mono (by omega)
    · cases hz
  | q :: q2 :: qs, p, k, h, hp => fun z hz => by
    rcases List.mem_cons.mp hz with rfl | hz
    · exact (sz_mul (h q List.mem_cons_self) hp).mono (by omega)
    · have := (powL_sz hx (k := k + m) (fun y hy => h y (List.mem_cons_of_mem _ hy)) (sz_mul hp hx) z hz)
      refine this.mono ?_
      simp only [List.length_cons, Nat.add_sub_cancel]
      rw [Nat.mul_succ]
      omega
theorem sz_one : Sz 1 (1 : Rat) := ⟨by decide, by decide⟩
theorem sz_zero : Sz 1 (0 : Rat) := ⟨by decide, by decide⟩
theorem rg_drop {a b x : Int} {r : List Int} {k : Nat} (h : x :: r = (rg a b).drop k) : x = a + k ∧ r = (rg a b).drop (k + 1) ∧ k < (b - a).toNat := by
  have hk : k < (rg a b).length := by
    apply Classical.byContradiction
    intro hn
    rw [List.drop_eq_nil_of_le (by omega)] at h
    cases h
  rw [List.drop_eq_getElem_cons hk] at h
  injection h with h1 h2
  refine ⟨?_, h2, by rw [rg_len] at hk; exact hk⟩
  rw [h1]
  simp [rg]
end LW
namespace LW
open PySem PySem.Spec PyProof.Rows L2 DL TL
/-! ### lists item by item -/
inductive All2 {α β : Type} (R : α → β → Prop) : List α → List β → Prop
  | nil : All2 R [] []
  | cons {a : α} {b : β} {as : List α} {bs : List β} : R a b → All2 R as bs → All2 R (a :: as) (b :: bs)
theorem All2.length {α β : Type} {R : α → β → Prop} : ∀ {as : List α} {bs : List β}, All2 R as bs → as.length = bs.length
  | _, _, .nil => rfl
  | _, _, .cons _ r => congrArg (· + 1) r.length
theorem ok_mapS2 {α β ε : Type} {R : α → β → Prop} {xs : List α} {s : ε} {b : α → ε → Pm (β × ε)} (I : List α → ε → Prop) (h : I xs s) (hb : ∀ x r s, I (x :: r) s → Ok (b x s) fun p => R x p.1 ∧ I r p.2) : Ok (mapS xs s b) fun p => All2 R xs p.1 ∧ I [] p.2 := by
  induction xs generalizing s with
  | nil => exact ok_ok ⟨.nil, h⟩
  | cons x xs ih =>
    unfold mapS
    refine ok_bx (hb x xs s h) fun p hp => ?_
    exact ok_bx (ih hp.2) fun q hq => ok_ok ⟨.cons hp.1 hq.1, hq.2⟩
theorem rg_eq {ω : Type} {a b : Int} {k : List Int → Pm ω} (h : -(2 ^ 62) ≤ a ∧ a < 2 ^ 62 ∧ -(2 ^ 62) ≤ b ∧ b < 2 ^ 62) : rgP a b k = k (rg a b) := if_pos h
theorem ln_eq {ω α : Type} {xs : List α} {k : Unit → Pm ω} (h : xs.length ≤ 16777216) : lnP xs k = k () := if_pos h
theorem ap_eq {ω α : Type} {xs : List α} {k : Unit → Pm ω} (h : xs.length < 16777216) : apP xs k = k () := if_pos h
theorem mapP_eq {ω α β : Type} {xs : List α} {b : α → Pm β} {k : List β → Pm ω} (g : α → β) (hb : ∀ x ∈ xs, b x = .ok (g x)) : bx (mapP xs b) k = k (xs.map g) := by rw [mapP_ok g hb]; rfl
/-! ### schemes -/
abbrev encW : Int × Rat → Int × (Int × Int) := fun p => (p.1, shr p.2)
theorem srt_enc {α β : Type} (t : β → D) (f : α → β) (xs : List α) : srt t (xs.map f) = (xs.mergeSort fun a b => PySem.W.dataLe false t (f a) (f b)).map f :=
  (List.map_mergeSort (r := fun a b => PySem.W.dataLe false t (f a) (f b)) (s := PySem.W.dataLe false t) (f := f) (l := xs) (fun _ _ _ _ => rfl)).symm
theorem sum_perm {xs ys : List Rat} (h : xs.Perm ys) : sumR xs = sumR ys := by
  induction h with
  | nil => rfl
  | cons x _ ih => rw [sum_cons, sum_cons, ih]
  | swap x y l => rw [sum_cons, sum_cons, sum_cons, sum_cons]; grind
  | trans _ _ h1 h2 => rw [h1, h2]
theorem sortok_ints (xs : List Int) : SortOk (xs.map PyData.int) :=
  ⟨PySem.W.AllAlike.of (enc := PyData.int) fun _ _ => by simp [PySem.W.alike], PySem.W.Sortable.others (enc := PyData.int) fun _ => ⟨by simp, by simp⟩, fun d hd => by obtain ⟨x, _, rfl⟩ := List.mem_map.mp hd; simp [PyData.depth]⟩
theorem sortok_plan (xs : List (Int × (Int × Int))) : SortOk (xs.map (dP2 PyData.int (dP2 PyData.int PyData.int))) :=
  ⟨PySem.W.AllAlike.of (enc := dP2 PyData.int (dP2 PyData.int PyData.int)) fun _ _ => by simp [PySem.W.alike, PySem.W.alikeAll], PySem.W.Sortable.tuples (enc := dP2 PyData.int (dP2 PyData.int PyData.int)) fun _ => ⟨_, _, rfl⟩,
    fun d hd => by obtain ⟨x, _, rfl⟩ := List.mem_map.mp hd; simp [PyData.depth, PyData.depthAll]⟩
theorem srt_int (xs : List Int) : srt PyData.int xs = xs.mergeSort fun a b => decide (a ≤ b) := by
  unfold srt
  rw [show PySem.W.dataLe false PyData.int = fun (a b : Int) => decide (a ≤ b) from PySem.W.dataLe_int (fun b => b)]
theorem srt_int_lt {xs : List Int} (h : xs.Nodup) : (srt PyData.int xs).Pairwise (· < ·) ∧ (srt PyData.int xs).Perm xs := by
  rw [srt_int]
  have hp := List.mergeSort_perm xs (fun a b => decide (a ≤ b))
  refine ⟨?_, hp⟩
  have h1 : (xs.mergeSort fun a b => decide (a ≤ b)).Pairwise (fun a b => decide (a ≤ b) = true) := List.pairwise_mergeSort (by simp; omega) (by simp; omega) xs
  have h2 := hp.nodup_iff.mpr h
  exact (h1.and h2).imp fun ⟨a, b⟩ => by have := of_decide_eq_true a; omega
theorem rg_lt (a b : Int) : (rg a b).Pairwise (· < ·) := by
  unfold rg
  rw [List.pairwise_map]
  exact (List.pairwise_lt_range).imp fun h => by omega
/-- a power, as a share of powers -/
theorem divInt_pow (t : Rat) : ∀ m : Nat, t ^ m = Rat.divInt (t.num ^ m) ((t.den : Int) ^ m)
  | 0 => by rw [Rat.pow_zero, Int.pow_zero, Int.pow_zero]; exact (Rat.num_divInt_den 1).symm
  | m + 1 => by
    have h := Rat.divInt_mul_divInt (t.num ^ m) t.num (d₁ := (t.den : Int) ^ m) (d₂ := (t.den : Int))
    rw [Rat.num_divInt_den] at h
    rw [Rat.pow_succ, divInt_pow t m, Int.pow_succ, Int.pow_succ, h]
theorem sz_pow {t : Rat} {n : Nat} (h : Sz n t) : ∀ m : Nat, Sz (n * m + 1) (t ^ m)
  | 0 => by rw [Rat.pow_zero]; exact sz_one
  | m + 1 => by rw [Rat.pow_succ, Nat.mul_succ]; exact (sz_mul (sz_pow h m) h).mono (by omega)
theorem cast_pow (s : Int) : ∀ n : Nat, ((s ^ n : Int) : Rat) = (s : Rat) ^ n
  | 0 => by rw [Rat.pow_zero, Int.pow_zero]; rfl
  | n + 1 => by rw [Int.pow_succ, Rat.intCast_mul, cast_pow s n, Rat.pow_succ]
theorem neg_pow (s : Int) : ∀ n : Nat, ((-s : Int) : Rat) ^ n = ((1 - 2 * ((n : Int).fmod 2) : Int) : Rat) * (s : Rat) ^ n
  | 0 => by simp
  | n + 1 => by
    rw [Rat.pow_succ, neg_pow s n, Rat.pow_succ, Rat.intCast_neg]
    have h : (n : Int).fmod 2 = 0 ∧ ((n + 1 : Nat) : Int).fmod 2 = 1 ∨ (n : Int).fmod 2 = 1 ∧ ((n + 1 : Nat) : Int).fmod 2 = 0 := by
      rw [Int.fmod_eq_emod_of_nonneg _ (by decide), Int.fmod_eq_emod_of_nonneg _ (by decide)]
      omega
    rcases h with ⟨h1, h2⟩ | ⟨h1, h2⟩ <;> rw [h1, h2] <;> simp <;> grind
def mom (ps : List (Int × Rat)) (n : Nat) : Rat := sumR (ps.map fun p => p.2 * (p.1 : Rat) ^ n)
theorem mom_perm {ps qs : List (Int × Rat)} (h : ps.Perm qs) (n : Nat) : mom ps n = mom qs n := sum_perm (h.map _)
theorem mom_neg (ps : List (Int × Rat)) (n : Nat) : mom (ps.map fun p => (-p.1, p.2)) n = ((1 - 2 * ((n : Int).fmod 2) : Int) : Rat) * mom ps n := by
  unfold mom
  rw [List.map_map]
  induction ps with
  | nil => simp [sumR]
  | cons p ps ih =>
    rw [List.map_cons, List.map_cons, sum_cons, sum_cons, ih]
    show p.2 * ((-p.1 : Int) : Rat) ^ n + _ = _
    rw [neg_pow]
    grind
def desc (n : Nat) (m : Nat) : Int := (List.range m).foldl (fun (f : Int) (i : Nat) => f * ((n : Int) - (i : Int))) 1
def warmR (t : Rat) (n : Nat) : Rat := if n % 2 = 1 then 0 else (desc n (n / 2) : Int) * t ^ (n / 2)
end LW
namespace LW
open PySem PySem.Spec PyProof.Rows L2 DL TL
/-! ### a share as a whole number over a common one -/
def Bd (D B : Nat) (q : Rat) : Prop := ∃ z : Int, q * (D : Rat) = (z : Rat) ∧ z.natAbs ≤ B
theorem Bd.of (q : Rat) : Bd q.den q.num.natAbs q := ⟨q.num, mul_den q, Nat.le_refl _⟩
theorem Bd.mono {D B B' : Nat} {q : Rat} (h : Bd D B q) (hb : B ≤ B') : Bd D B' q := let ⟨z, h1, h2⟩ := h; ⟨z, h1, Nat.le_trans h2 hb⟩
theorem Bd.add {D B C : Nat} {p q : Rat} (h : Bd D B p) (g : Bd D C q) : Bd D (B + C) (p + q) := by
  obtain ⟨y, h1, h2⟩ := h
  obtain ⟨z, h3, h4⟩ := g
  exact ⟨y + z, by rw [Rat.intCast_add, ← h1, ← h3]; grind, by omega⟩
theorem Bd.mul {D E B C : Nat} {p q : Rat} (h : Bd D B p) (g : Bd E C q) : Bd (D * E) (B * C) (p * q) := by
  obtain ⟨y, h1, h2⟩ := h
  obtain ⟨z, h3, h4⟩ := g
  refine ⟨y * z, ?_, by rw [Int.natAbs_mul]; exact Nat.mul_le_mul h2 h4⟩
  rw [Rat.intCast_mul, Rat.natCast_mul, ← h1, ← h3]; grind
theorem Bd.up {D B : Nat} {q : Rat} (h : Bd D B q) (E : Nat) : Bd (D * E) (B * E) q := by
  obtain ⟨y, h1, h2⟩ := h
  refine ⟨y * (E : Int), ?_, by rw [Int.natAbs_mul, Int.natAbs_natCast]; exact Nat.mul_le_mul_right _ h2⟩
  rw [Rat.intCast_mul, Rat.natCast_mul, ← h1]
  show q * ((D : Rat) * (E : Rat)) = q * (D : Rat) * (E : Rat)
  grind
theorem Bd.zero (D : Nat) : Bd D 0 0 := ⟨0, by simp, Nat.le_refl _⟩
theorem Bd.int (z : Int) : Bd 1 z.natAbs (z : Rat) := ⟨z, by show (z : Rat) * 1 = _; grind, Nat.le_refl _⟩
theorem Bd.den {D B : Nat} {q : Rat} (h : Bd D B q) : q.den ∣ D := (den_dvd q D).mpr (let ⟨z, h1, _⟩ := h; ⟨z, h1⟩)
theorem Bd.num {D B : Nat} {q : Rat} (h : Bd D B q) (hD : 0 < D) : q.num.natAbs ≤ B := by
  obtain ⟨k, rfl⟩ := h.den
  obtain ⟨z, h1, h2⟩ := h
  rw [Rat.natCast_mul, ← Rat.mul_assoc, mul_den] at h1
  have h3 : ((q.num * (k : Int) : Int) : Rat) = (z : Rat) := by rw [Rat.intCast_mul]; exact h1
  have h4 := Rat.intCast_inj.mp h3
  have hk : 1 ≤ k := Nat.pos_of_ne_zero fun e => by rw [e] at hD; simp at hD
  rw [← h4, Int.natAbs_mul, Int.natAbs_natCast] at h2
  exact Nat.le_trans (Nat.le_mul_of_pos_right _ hk) h2
theorem Bd.sz {D B n : Nat} {q : Rat} (h : Bd D B q) (h0 : 0 < D) (hD : D < 2 ^ n) (hB : B < 2 ^ n) : Sz n q :=
  ⟨Nat.lt_of_le_of_lt (h.num h0) hB, Nat.lt_of_le_of_lt (Nat.le_of_dvd h0 h.den) hD⟩
theorem Bd.pow {D B : Nat} {q : Rat} (h : Bd D B q) : ∀ k : Nat, Bd (D ^ k) (B ^ k) (q ^ k)
  | 0 => by rw [Rat.pow_zero]; exact ⟨1, by simp, by rw [Nat.pow_zero]; decide⟩
  | k + 1 => by rw [Rat.pow_succ]; exact (h.pow k).mul h
/-! ### lists of shares as functions -/
theorem co_lt {qs : List Rat} {n : Nat} (h : n < qs.length) : co qs n = qs[n] := by unfold co; rw [List.getD_eq_getElem?_getD, List.getElem?_eq_getElem h]; rfl
theorem co_mem {qs : List Rat} {n : Nat} (h : n < qs.length) : co qs n ∈ qs := by rw [co_lt h]; exact List.getElem_mem h
theorem co_map {f : Rat → Rat} (h0 : f 0 = 0) (qs : List Rat) (n : Nat) : co (qs.map f) n = f (co qs n) := by
  unfold co
  rw [List.getD_eq_getElem?_getD, List.getD_eq_getElem?_getD, List.getElem?_map]
  cases qs[n]? <;> simp [h0]
theorem co_pad (qs : List Rat) (k n : Nat) : co (qs ++ List.replicate k 0) n = co qs n := by
  unfold co
  by_cases h : n < qs.length
  · simp [List.getD_eq_getElem?_getD, List.getElem?_append_left h]
  · simp only [List.getD_eq_getElem?_getD]
    rw [List.getElem?_append_right (by omega), List.getElem?_replicate, List.getElem?_eq_none (l := qs) (by omega)]
    split <;> rfl
theorem co_zip {ps qs : List Rat} (h : ps.length = qs.length) (n : Nat) : co ((ps.zip qs).map fun p => p.1 + p.2) n = co ps n + co qs n := by
  by_cases hn : n < ps.length
  · have h2 : n < qs.length := by omega
    rw [co_lt hn, co_lt h2, co_lt (by rw [List.length_map, List.length_zip]; omega)]
    simp
  · have h3 : ((ps.zip qs).map fun p => p.1 + p.2).length ≤ n := by rw [List.length_map, List.length_zip]; omega
    rw [co_out (qs := ps) (by omega), co_out (qs := qs) (by omega), co_out h3]
    grind
def padR (n : Nat) (qs : List Rat) : List Rat := qs ++ List.replicate (n - qs.length) 0
def sumP (ps qs : List Rat) : List Rat := trimR (((padR (max ps.length qs.length) ps).zip (padR (max ps.length qs.length) qs)).map fun p => p.1 + p.2)
theorem padR_len {n : Nat} {qs : List Rat} (h : qs.length ≤ n) : (padR n qs).length = n := by unfold padR; rw [List.length_append, List.length_replicate]; omega
theorem co_sumP (ps qs : List Rat) (n : Nat) : co (sumP ps qs) n = co ps n + co qs n := by
  unfold sumP
  rw [co_trim, co_zip (by rw [padR_len (by omega), padR_len (by omega)])]
  unfold padR
  rw [co_pad, co_pad]
theorem sumP_trim (ps qs : List Rat) : Trim (sumP ps qs) := trim_trim _
theorem sumP_len (ps qs : List Rat) : (sumP ps qs).length ≤ max ps.length qs.length := by
  unfold sumP
  refine Nat.le_trans (trim_len _) ?_
  rw [List.length_map, List.length_zip, padR_len (by omega), padR_len (by omega)]
  omega
def wgh (w : Rat) (qs : List Rat) : List Rat := trimR (qs.map (w * ·))
theorem co_wgh (w : Rat) (qs : List Rat) (n : Nat) : co (wgh w qs) n = w * co qs n := by
  unfold wgh
  rw [co_trim, co_map (by grind)]
def aJ (j : Nat) : Rat := ((((j : Int) + 2) * ((j : Int) + 1) : Int) : Rat)
def kJ (k : Nat) : Rat := (((k : Int) + 1 : Int) : Rat)
def d2 (qs : List Rat) : List Rat := ((qs.zipIdx.map fun p => (((p.2 : Int) * ((p.2 : Int) - 1) : Int) : Rat) * p.1)).drop 2
theorem co_d2 (qs : List Rat) (n : Nat) : co (d2 qs) n = aJ n * co qs (n + 2) := by
  unfold d2 co aJ
  simp only [List.getD_eq_getElem?_getD]
  rw [List.getElem?_drop, List.getElem?_map, List.getElem?_zipIdx]
  rw [Nat.add_comm 2 n]
  cases qs[n + 2]? with
  | none => simp
  | some q =>
    simp only [Option.map_some, Option.getD_some]
    rw [show (((0 + (n + 2) : Nat)) : Int) = (n : Int) + 2 by omega, show ((n : Int) + 2 - 1) = (n : Int) + 1 by omega]
theorem d2_len (qs : List Rat) : (d2 qs).length = qs.length - 2 := by unfold d2; rw [List.length_drop, List.length_map, List.length_zipIdx]
theorem mem_zip_all {P : Rat → Prop} {ps qs : List Rat} (hp : ∀ q ∈ ps, P q) (hq : ∀ q ∈ qs, P q) : ∀ p ∈ ps.zip qs, P p.1 ∧ P p.2 := fun p h => by
  obtain ⟨a, b⟩ := p
  exact ⟨hp a (List.of_mem_zip h).1, hq b (List.of_mem_zip h).2⟩
theorem pad_all {P : Rat → Prop} (h0 : P 0) {n : Nat} {qs : List Rat} (h : ∀ q ∈ qs, P q) : ∀ q ∈ padR n qs, P q := fun q hq => by
  rcases List.mem_append.mp hq with hq | hq
  · exact h q hq
  · rw [List.eq_of_mem_replicate hq]; exact h0
theorem sumP_all {n m : Nat} {ps qs : List Rat} (hp : ∀ q ∈ ps, Sz n q) (hq : ∀ q ∈ qs, Sz m q) (h1 : 1 ≤ n) (h2 : 1 ≤ m) : ∀ q ∈ sumP ps qs, Sz (n + m + 1) q := fun q h => by
  obtain ⟨⟨a, b⟩, hab, rfl⟩ := List.mem_map.mp (trim_mem h)
  exact sz_add (pad_all (sz_zero.mono h1) hp a (List.of_mem_zip hab).1) (pad_all (sz_zero.mono h2) hq b (List.of_mem_zip hab).2)
theorem wgh_all {n m : Nat} {w : Rat} {qs : List Rat} (hw : Sz n w) (hq : ∀ q ∈ qs, Sz m q) : ∀ q ∈ wgh w qs, Sz (n + m) q := fun q h => by
  obtain ⟨a, ha, rfl⟩ := List.mem_map.mp (trim_mem h)
  exact sz_mul hw (hq a ha)
theorem wgh_len (w : Rat) (qs : List Rat) : (wgh w qs).length ≤ qs.length := by
  unfold wgh
  refine Nat.le_trans (trim_len _) ?_
  rw [List.length_map]; exact Nat.le_refl _
theorem d2_all {n : Nat} {qs : List Rat} (hq : ∀ q ∈ qs, Sz n q) (hl : qs.length ≤ 16) : ∀ q ∈ d2 qs, Sz (8 + n) q := fun q h => by
  have h := List.mem_of_mem_drop h
  obtain ⟨⟨a, i⟩, hi, rfl⟩ := List.mem_map.mp h
  have hi2 := List.mem_zipIdx' hi
  have : i < 16 := by omega
  refine sz_mul ⟨?_, by show 1 < 2 ^ 8; decide⟩ (hq a (by rw [hi2.2]; exact List.getElem_mem _))
  show ((i : Int) * ((i : Int) - 1)).natAbs < 2 ^ 8
  have : ∀ i : Fin 16, ((i.1 : Int) * ((i.1 : Int) - 1)).natAbs < 2 ^ 8 := by decide
  exact this ⟨i, by omega⟩
theorem repP_one {α : Type} (n : Int) (x : α) : repP n [x] = List.replicate n.toNat x := by
  unfold repP
  generalize n.toNat = k
  induction k with
  | zero => rfl
  | succ k ih => rw [List.replicate_succ, List.flatten_cons, ih, List.replicate_succ]; rfl
theorem st_eq {ω α : Type} {xs : List α} {i : Int} {v : α} {k : List α → Pm ω} (h0 : 0 ≤ i) (h1 : i < xs.length) : stP xs i v k = k (xs.set i.toNat v) := by
  unfold stP ixN
  rw [if_pos h0, if_pos h1]
theorem ix_eq {ω α : Type} {xs : List α} {i : Int} {k : α → Pm ω} (h0 : 0 ≤ i) (h1 : i < xs.length) : ixP xs i k = k (xs[i.toNat]'(by omega)) := by
  unfold ixP atI ixN
  rw [if_pos h0, if_pos h1]
  simp only [Option.bind_some]
  rw [List.getElem?_eq_getElem (by omega)]
theorem co_set (qs : List Rat) (i : Nat) (v : Rat) (h : i < qs.length) (n : Nat) : co (qs.set i v) n = if n = i then v else co qs n := by
  unfold co
  simp only [List.getD_eq_getElem?_getD]
  rw [List.getElem?_set]
  by_cases e : i = n
  · subst e; rw [if_pos rfl, if_pos rfl, if_pos h]; rfl
  · rw [if_neg e, if_neg (fun z => e z.symm)]
theorem cut_from' {α : Type} {xs : List α} {i : Int} (h0 : 0 ≤ i) : cut xs (some i) none = xs.drop i.toNat := by
  by_cases h1 : i ≤ xs.length
  · exact cut_from h0 h1
  · unfold cut HT.sIx
    dsimp only
    rw [if_neg (by omega), List.drop_eq_nil_of_le (by omega), List.drop_eq_nil_of_le (by omega), List.take_nil]
theorem cut_to' {α : Type} {xs : List α} {i : Int} (h0 : 0 ≤ i) : cut xs none (some i) = xs.take i.toNat := by
  by_cases h1 : i ≤ xs.length
  · exact cut_to h0 h1
  · unfold cut HT.sIx
    dsimp only
    rw [if_neg (by omega), List.drop_zero, List.take_of_length_le (by omega), List.take_of_length_le (by omega)]
/-! ### what warmth does, as a function -/
def wCo (t : Rat) : Nat → (Nat → Rat) → Rat → Nat → (Nat → Rat)
  | 0, _, _, _ => fun _ => 0
  | N + 1, c, w, k => fun j => w * c j + wCo t N (fun j => aJ j * c (j + 2)) (w * t / kJ k) (k + 1) j
theorem wCo_zero (t : Rat) : ∀ (N : Nat) (c : Nat → Rat) (w : Rat) (k : Nat), (∀ j, c j = 0) → ∀ j, wCo t N c w k j = 0
  | 0, _, _, _, _, _ => rfl
  | N + 1, c, w, k, h, j => by
    unfold wCo
    rw [h, wCo_zero t N _ _ _ (fun j => by rw [h]; grind)]
    grind
def wLoop (t : Rat) : Nat → List Rat → List Rat → Rat → Nat → List Rat
  | 0, _, fs, _, _ => fs
  | N + 1, ps, fs, w, k => if ps = [] then fs else wLoop t N (d2 ps) (sumP fs (wgh w ps)) (w * t / kJ k) (k + 1)
theorem wLoop_co (t : Rat) : ∀ (N : Nat) (ps fs : List Rat) (w : Rat) (k : Nat) (j : Nat), co (wLoop t N ps fs w k) j = co fs j + wCo t N (co ps) w k j
  | 0, ps, fs, w, k, j => by show co fs j = co fs j + 0; grind
  | N + 1, ps, fs, w, k, j => by
    unfold wLoop
    split
    · next h => subst h; rw [wCo_zero t (N + 1) _ _ _ (fun j => co_nil j)]; grind
    · rw [wLoop_co t N, co_sumP, co_wgh]
      show _ = co fs j + (w * co ps j + wCo t N (fun (j : Nat) => aJ j * co ps (j + 2)) (w * t / kJ k) (k + 1) j)
      have : (fun (j : Nat) => aJ j * co ps (j + 2)) = co (d2 ps) := by funext j; rw [co_d2]
      rw [this]
      grind
theorem wLoop_trim (t : Rat) : ∀ (N : Nat) (ps fs : List Rat) (w : Rat) (k : Nat), Trim fs → Trim (wLoop t N ps fs w k)
  | 0, _, _, _, _, h => h
  | N + 1, ps, fs, w, k, h => by
    unfold wLoop
    split
    · exact h
    · exact wLoop_trim t N _ _ _ _ (sumP_trim _ _)
theorem kJs : kJ 0 = 1 ∧ kJ 1 = 2 ∧ kJ 2 = 3 ∧ kJ 3 = 4 ∧ kJ 4 = 5 ∧ kJ 5 = 6 ∧ kJ 6 = 7 := by decide +kernel
theorem wCo_out (t : Rat) : ∀ (N : Nat) (c : Nat → Rat) (w : Rat) (k j : Nat), (∀ i, j ≤ i → c i = 0) → wCo t N c w k j = 0
  | 0, _, _, _, _, _ => rfl
  | N + 1, c, w, k, j, h => by
    unfold wCo
    rw [h j (Nat.le_refl _), wCo_out t N _ _ _ j (fun i hi => by rw [h (i + 2) (by omega)]; grind)]
    grind
/-- two times behind one another are their sum -/
theorem wCo_sum (s t : Rat) (c : Nat → Rat) (hc : ∀ i, 13 ≤ i → c i = 0) (j : Nat) : wCo s 7 (wCo t 7 c 1 0) 1 0 j = wCo (t + s) 7 c 1 0 j := by
  obtain ⟨k0, k1, k2, k3, k4, k5, k6⟩ := kJs
  have z : ∀ m : Nat, 7 ≤ m → c (j + 2 * m) = 0 := fun m hm => hc _ (by omega)
  have z7 := z 7 (by omega)
  have z8 := z 8 (by omega)
  have z9 := z 9 (by omega)
  have z10 := z 10 (by omega)
  have z11 := z 11 (by omega)
  have z12 := z 12 (by omega)
  simp only [wCo, k0, k1, k2, k3, k4, k5, k6, Nat.add_assoc, Nat.reduceAdd, Nat.reduceMul, Nat.zero_add] at *
  rw [z7, z8, z9, z10, z11, z12]
  generalize aJ j = a0
  generalize aJ (j + 2) = a1
  generalize aJ (j + 4) = a2
  generalize aJ (j + 6) = a3
  generalize aJ (j + 8) = a4
  generalize aJ (j + 10) = a5
  generalize c j = x0
  generalize c (j + 2) = x1
  generalize c (j + 4) = x2
  generalize c (j + 6) = x3
  generalize c (j + 8) = x4
  generalize c (j + 10) = x5
  generalize c (j + 12) = x6
  grind
/-! ### the same, each power alone -/
def divR (m k : Nat) : Rat := ((((m : Int) - 2 * (k : Int)) * ((m : Int) - 2 * (k : Int) - 1) : Int) : Rat) / kJ k
def pk (t : Rat) (m : Nat) : Nat → Rat
  | 0 => 1
  | k + 1 => pk t m k * t * divR m k
def innI (t : Rat) (m : Nat) : Nat → List Rat × Rat → List Rat × Rat
  | 0, s => s
  | k + 1, s => let r := innI t m k s; (r.1.set (m - 2 * k) (co r.1 (m - 2 * k) + r.2), r.2 * t * divR m k)
theorem innI_part (t : Rat) (m : Nat) (s : List Rat × Rat) : ∀ k : Nat, (innI t m k s).2 = s.2 * pk t m k
  | 0 => by show s.2 = s.2 * 1; grind
  | k + 1 => by
    show (innI t m k s).2 * t * divR m k = s.2 * (pk t m k * t * divR m k)
    rw [innI_part t m s k]; grind
theorem innI_len (t : Rat) (m : Nat) (s : List Rat × Rat) : ∀ k : Nat, (innI t m k s).1.length = s.1.length
  | 0 => rfl
  | k + 1 => by show ((innI t m k s).1.set _ _).length = _; rw [List.length_set, innI_len t m s k]
theorem innI_co (t : Rat) (m : Nat) (s : List Rat × Rat) (hm : m < s.1.length) (j : Nat) : ∀ k : Nat, k ≤ m / 2 + 1 → co (innI t m k s).1 j = co s.1 j + if j ≤ m ∧ (m - j) % 2 = 0 ∧ (m - j) / 2 < k then s.2 * pk t m ((m - j) / 2) else 0
  | 0, _ => by show co s.1 j = _; rw [if_neg (by omega)]; grind
  | k + 1, hk => by
    show co ((innI t m k s).1.set (m - 2 * k) _) j = _
    rw [co_set _ _ _ (by rw [innI_len]; omega)]
    have ih := innI_co t m s hm j k (by omega)
    split
    · next e =>
      rw [← e, ih, if_neg (by omega), if_pos (by omega), innI_part, show (m - j) / 2 = k by omega]
      grind
    · next e =>
      rw [ih]
      by_cases h : j ≤ m ∧ (m - j) % 2 = 0 ∧ (m - j) / 2 < k
      · rw [if_pos h, if_pos (by omega)]
      · rw [if_neg h, if_neg (by omega)]
def dC (c : Nat → Rat) (t : Rat) : Nat → Nat → Rat
  | 0, _ => 0
  | m + 1, j => dC c t m j + if j ≤ m ∧ (m - j) % 2 = 0 then c m * pk t m ((m - j) / 2) else 0
theorem dC_ext (c : Nat → Rat) (t : Rat) (n : Nat) (h : ∀ i, n ≤ i → c i = 0) (j : Nat) : ∀ d : Nat, dC c t (n + d) j = dC c t n j
  | 0 => rfl
  | d + 1 => by
    show dC c t (n + d) j + _ = _
    have hz : c (n.add d) = 0 := h _ (Nat.le_add_right n d)
    rw [dC_ext c t n h j d, hz]
    split <;> grind
theorem divR_eq (m k : Nat) (v : Int) (h : ((m : Int) - 2 * (k : Int)) * ((m : Int) - 2 * (k : Int) - 1) = v) : divR m k = (v : Rat) / kJ k := by unfold divR; rw [h]
theorem dC_wCo (c : Nat → Rat) (t : Rat) (hc : ∀ i, 13 ≤ i → c i = 0) (j : Nat) : dC c t 13 j = wCo t 7 c 1 0 j := by
  by_cases hj : 13 ≤ j
  · rw [wCo_out t 7 c 1 0 j (fun i hi => hc i (by omega))]
    have : ∀ m, m ≤ 13 → dC c t m j = 0 := fun m => by
      induction m with
      | zero => intro _; rfl
      | succ m ih => intro h; show dC c t m j + (if j ≤ m ∧ (m - j) % 2 = 0 then _ else 0) = 0; rw [ih (by omega), if_neg (by omega)]; grind
    exact this 13 (by omega)
  · obtain ⟨k0, k1, k2, k3, k4, k5, k6⟩ := kJs
    have z13 := hc 13 (by omega)
    have z14 := hc 14 (by omega)
    have z15 := hc 15 (by omega)
    have z16 := hc 16 (by omega)
    have z17 := hc 17 (by omega)
    have z18 := hc 18 (by omega)
    have z19 := hc 19 (by omega)
    have z20 := hc 20 (by omega)
    have z21 := hc 21 (by omega)
    have z22 := hc 22 (by omega)
    have z23 := hc 23 (by omega)
    have z24 := hc 24 (by omega)
    have hh : j = 0 ∨ j = 1 ∨ j = 2 ∨ j = 3 ∨ j = 4 ∨ j = 5 ∨ j = 6 ∨ j = 7 ∨ j = 8 ∨ j = 9 ∨ j = 10 ∨ j = 11 ∨ j = 12 := by omega
    rcases hh with rfl | rfl | rfl | rfl | rfl | rfl | rfl | rfl | rfl | rfl | rfl | rfl | rfl
    all_goals
      simp [dC, wCo, pk, divR, aJ, k0, k1, k2, k3, k4, k5, k6, z13, z14, z15, z16, z17, z18, z19, z20, z21, z22, z23, z24]
      try grind
end LW
namespace LW
open PySem PySem.Spec PyProof.Rows L2 DL TL
/-! ### rows, sums of products, charts -/
theorem Bd.sum {D B : Nat} {qs : List Rat} (h : ∀ q ∈ qs, Bd D B q) : Bd D (qs.length * B) (sumR qs) := by
  induction qs with
  | nil => rw [sum_nil]; exact (Bd.zero D).mono (Nat.zero_le _)
  | cons x xs ih =>
    rw [sum_cons, List.length_cons, Nat.succ_mul, Nat.add_comm]
    exact (h x List.mem_cons_self).add (ih fun q hq => h q (List.mem_cons_of_mem _ hq))
theorem Bd.of_divInt {u d : Int} {D : Nat} (hd : 0 < d) (h : d.toNat ∣ D) : Bd D (u.natAbs * D) (Rat.divInt u d) := by
  obtain ⟨k, rfl⟩ := h
  have hk : (d.toNat : Int) = d := by omega
  refine ⟨u * (k : Int), ?_, ?_⟩
  · rw [Rat.divInt_eq_div, Rat.natCast_mul, Rat.intCast_mul]
    have h1 : ((d.toNat : Nat) : Rat) = (d : Rat) := by rw [← hk]; rfl
    have h2 : (d : Rat) ≠ 0 := by
      intro z
      have : d = 0 := by exact_mod_cast z
      omega
    rw [h1]
    have h3 : ((k : Nat) : Rat) = ((k : Int) : Rat) := rfl
    rw [h3]
    grind
  · rw [Int.natAbs_mul, Int.natAbs_natCast]
    refine Nat.mul_le_mul_left _ (Nat.le_mul_of_pos_left _ (by omega))
/-- a sum, step by step -/
theorem sum_core {F : Int × Int → Int × Int → Pm (Int × Int)} {n D B : Nat} (hF : ∀ p q, Sz n p → Sz n q → F (shr p) (shr q) = .ok (shr (p + q))) {qs : List Rat} (h : ∀ q ∈ qs, Bd D B q) (h0 : 0 < D) (hD : D < 2 ^ n) (hB : (qs.length + 1) * B < 2 ^ n) :
    bd (forN (qs.map shr) (((0 : Int), (1 : Int)), ()) fun (x5 : (Int × Int)) (s6 : (Int × Int) × Unit) => bd (F s6.1 x5) fun r7 => .ok (r7, ())) (fun (s8 : (Int × Int) × Unit) => Pm.ok s8.1) = .ok (shr (sumR qs)) := by
  rw [forN_map]
  have hm : ∀ k : Nat, k ≤ qs.length + 1 → k * B < 2 ^ n := fun k hk => Nat.lt_of_le_of_lt (Nat.mul_le_mul_right _ hk) hB
  have := fold_ok (xs := qs) (t0 := (0 : Rat)) (b := fun q (s6 : (Int × Int) × Unit) => bd (F s6.1 (shr q)) fun r7 => .ok (r7, ())) (fun r => (shr r, ())) (fun r q => r + q) (fun rest r => ∃ k, Bd D (k * B) r ∧ k + rest.length ≤ qs.length ∧ ∀ q ∈ rest, Bd D B q) ⟨0, (Bd.zero D).mono (Nat.zero_le _), by omega, h⟩ (by
    rintro q rest r ⟨k, hk, hk2, hq⟩
    rw [List.length_cons] at hk2
    have hq0 := hq q List.mem_cons_self
    refine ⟨?_, k + 1, by rw [Nat.succ_mul]; exact hk.add hq0, by omega, fun y hy => hq y (List.mem_cons_of_mem _ hy)⟩
    dsimp only
    rw [hF r q (hk.sz h0 hD (hm k (by omega))) (hq0.sz h0 hD (by have := hm 1 (by omega); omega)), bd_ok])
  rw [show (((0 : Int), (1 : Int)), ()) = (shr 0, ()) from rfl, this.1]
  rfl
def dotR : List Rat → List Rat → Rat
  | a :: as, b :: bs => a * b + dotR as bs
  | _, _ => 0
theorem dot_zip : ∀ (as bs : List Rat), sumR ((as.zip bs).map fun p => p.1 * p.2) = dotR as bs
  | [], _ => rfl
  | _ :: _, [] => rfl
  | a :: as, b :: bs => by rw [List.zip_cons_cons, List.map_cons, sum_cons, dot_zip as bs]; rfl
theorem dot_bd {D B E C : Nat} {as bs : List Rat} (ha : ∀ a ∈ as, Bd D B a) (hb : ∀ b ∈ bs, Bd E C b) : Bd (D * E) (as.length * (B * C)) (dotR as bs) := by
  rw [← dot_zip]
  refine (Bd.sum (D := D * E) (B := B * C) (fun q hq => ?_)).mono (Nat.mul_le_mul_right _ ?_)
  · obtain ⟨⟨a, b⟩, hp, rfl⟩ := List.mem_map.mp hq
    exact (ha a (List.of_mem_zip hp).1).mul (hb b (List.of_mem_zip hp).2)
  · rw [List.length_map, List.length_zip]; omega
theorem dot_nil (as : List Rat) : dotR as [] = 0 := by cases as <;> rfl
theorem dot_filter : ∀ (as bs : List Rat), sumR (((as.zip bs).filter fun p => !decide (p.1 = 0)).map fun p => p.1 * p.2) = dotR as bs
  | [], _ => rfl
  | _ :: _, [] => rfl
  | a :: as, b :: bs => by
    rw [List.zip_cons_cons, List.filter_cons]
    have ih := dot_filter as bs
    by_cases h : a = 0
    · rw [if_neg (by simp [h]), ih]
      show dotR as bs = a * b + dotR as bs
      rw [h]; grind
    · rw [if_pos (by simp [h]), List.map_cons, sum_cons, ih]; rfl
theorem dot_add : ∀ (xs ys ws : List Rat), xs.length = ys.length → dotR ((xs.zip ys).map fun p => p.1 + p.2) ws = dotR xs ws + dotR ys ws
  | [], [], ws, _ => by show (0 : Rat) = 0 + 0; grind
  | x :: xs, y :: ys, [], _ => by rw [dot_nil, dot_nil, dot_nil]; grind
  | x :: xs, y :: ys, w :: ws, h => by
    rw [List.zip_cons_cons, List.map_cons]
    show (x + y) * w + dotR _ ws = (x * w + dotR xs ws) + (y * w + dotR ys ws)
    rw [dot_add xs ys ws (by simpa using h)]; grind
theorem dot_mul (r : Rat) : ∀ (xs ws : List Rat), dotR (xs.map (r * ·)) ws = r * dotR xs ws
  | [], ws => by show (0 : Rat) = r * 0; grind
  | x :: xs, [] => by rw [dot_nil, dot_nil]; grind
  | x :: xs, w :: ws => by
    rw [List.map_cons]
    show r * x * w + dotR _ ws = r * (x * w + dotR xs ws)
    rw [dot_mul r xs ws]; grind
theorem dot_zeros : ∀ (n : Nat) (ws : List Rat), dotR (List.replicate n 0) ws = 0
  | 0, ws => rfl
  | n + 1, [] => dot_nil _
  | n + 1, w :: ws => by
    rw [List.replicate_succ]
    show (0 : Rat) * w + dotR _ ws = 0
    rw [dot_zeros n ws]; grind
/-- a map: rows and rests -/
abbrev Ch := List (List Rat) × List Rat
def ledR (A : Ch) (w : List Rat) : List Rat := (A.1.zip A.2).map fun p => dotR p.1 w + p.2
def colR (A : List (List Rat)) (j : Nat) : List Rat := A.map fun r => co r j
def rowJ (n : Nat) (r : List Rat) (A : List (List Rat)) : List Rat := (List.range n).map fun j => dotR r (colR A j)
def joinR (n : Nat) (A B : Ch) : Ch := (B.1.map fun r => rowJ n r A.1, ledR B A.2)
theorem range_co (xs : List Rat) : (List.range xs.length).map (co xs) = xs := by
  apply List.ext_getElem (by simp)
  intro i h1 h2
  rw [List.getElem_map, List.getElem_range, co_lt h2]
theorem rowJ_nil (n : Nat) (r : List Rat) : rowJ n r [] = List.replicate n 0 := by
  unfold rowJ colR
  apply List.ext_getElem (by simp)
  intro i h1 h2
  simp [dot_nil]
theorem rowJ_nil' (n : Nat) (A : List (List Rat)) : rowJ n [] A = List.replicate n 0 := by
  unfold rowJ
  apply List.ext_getElem (by simp)
  intro i h1 h2
  simp [dotR]
theorem rowJ_cons (n : Nat) (x : Rat) (r : List Rat) (a : List Rat) (A : List (List Rat)) (ha : a.length = n) : rowJ n (x :: r) (a :: A) = ((a.map (x * ·)).zip (rowJ n r A)).map fun p => p.1 + p.2 := by
  unfold rowJ
  apply List.ext_getElem (by simp [ha])
  intro i h1 h2
  simp only [List.getElem_map, List.getElem_range, List.getElem_zip]
  have hi : i < a.length := by simpa [ha] using h1
  show x * co a i + dotR r (colR A i) = x * a[i] + dotR r (colR A i)
  rw [co_lt hi]
theorem rowJ_dot (n : Nat) (w : List Rat) : ∀ (r : List Rat) (A : List (List Rat)) (bs : List Rat), A.length = bs.length → (∀ a ∈ A, a.length = n) → dotR (rowJ n r A) w + dotR r bs = dotR r ((A.zip bs).map fun p => dotR p.1 w + p.2)
  | [], A, bs, _, _ => by rw [rowJ_nil', dot_zeros]; show (0 : Rat) + 0 = 0; grind
  | x :: r, [], [], _, _ => by rw [rowJ_nil, dot_zeros, dot_nil]; show (0 : Rat) + 0 = dotR (x :: r) []; rw [dot_nil]; grind
  | x :: r, a :: A, b :: bs, h, hA => by
    have ha := hA a List.mem_cons_self
    rw [rowJ_cons n x r a A ha, dot_add _ _ _ (by unfold rowJ; simp [ha]), dot_mul]
    have ih := rowJ_dot n w r A bs (by simpa using h) fun y hy => hA y (List.mem_cons_of_mem _ hy)
    rw [List.zip_cons_cons, List.map_cons]
    show x * dotR a w + dotR (rowJ n r A) w + (x * b + dotR r bs) = x * (dotR a w + b) + dotR r _
    rw [← ih]; grind
structure ChQ (N D B : Nat) (A : Ch) : Prop where
  l1 : A.1.length = N
  l2 : A.2.length = N
  lr : ∀ r ∈ A.1, r.length = N
  b1 : ∀ r ∈ A.1, ∀ q ∈ r, Bd D B q
  b2 : ∀ q ∈ A.2, Bd D B q
theorem led_join {N D B E C : Nat} {A A' : Ch} (h : ChQ N D B A) (g : ChQ N E C A') (w : List Rat) : ledR (joinR N A A') w = ledR A' (ledR A w) := by
  unfold ledR joinR
  dsimp only
  apply List.ext_getElem (by simp [ledR])
  intro i h1 h2
  simp only [List.getElem_map, List.getElem_zip, ledR]
  have := rowJ_dot N w (A'.1[i]'(by simp at h1; omega)) A.1 A.2 (by rw [h.l1, h.l2]) h.lr
  rw [← this]; grind
theorem led_len (A : Ch) (w : List Rat) (N : Nat) (h1 : A.1.length = N) (h2 : A.2.length = N) : (ledR A w).length = N := by unfold ledR; rw [List.length_map, List.length_zip]; omega
theorem led_bd {N D B E C : Nat} {A : Ch} {w : List Rat} (h : ChQ N D B A) (hw : ∀ q ∈ w, Bd E C q) : ∀ q ∈ ledR A w, Bd (D * E) (N * (B * C) + B * E) q := fun q hq => by
  obtain ⟨⟨r, b⟩, hp, rfl⟩ := List.mem_map.mp hq
  have h1 := (List.of_mem_zip hp).1
  have := dot_bd (h.b1 r h1) hw
  rw [h.lr r h1] at this
  exact this.add ((h.b2 b (List.of_mem_zip hp).2).up E)
theorem join_q {N D B E C : Nat} {A A' : Ch} (h : ChQ N D B A) (g : ChQ N E C A') : ChQ N (E * D) (N * (C * B) + C * D) (joinR N A A') where
  l1 := by unfold joinR; rw [List.length_map, g.l1]
  l2 := led_len _ _ _ g.l1 g.l2
  lr := fun r hr => by obtain ⟨x, _, rfl⟩ := List.mem_map.mp hr; unfold rowJ; simp
  b1 := fun r hr q hq => by
    obtain ⟨x, hx, rfl⟩ := List.mem_map.mp hr
    obtain ⟨j, hj, rfl⟩ := List.mem_map.mp hq
    have hj := List.mem_range.mp hj
    have hc : ∀ b ∈ colR A.1 j, Bd D B b := fun b hb => by
      obtain ⟨a, ha, rfl⟩ := List.mem_map.mp hb
      exact h.b1 a ha _ (co_mem (by rw [h.lr a ha]; exact hj))
    have := dot_bd (g.b1 x hx) hc
    rw [g.lr x hx] at this
    exact this.mono (Nat.le_add_right _ _)
  b2 := led_bd g h.b2
/-- the map that changes nothing -/
def idCh (n : Nat) : Ch := ((List.range n).map fun i => (List.range n).map fun k => if k = i then (1 : Rat) else 0, List.replicate n 0)
theorem dot_unit : ∀ (n i s : Nat) (ws : List Rat), ws.length = n → s ≤ i → dotR ((List.range' s n).map fun k => if k = i then (1 : Rat) else 0) ws = co ws (i - s)
  | 0, i, s, ws, h, _ => by have : ws = [] := List.eq_nil_of_length_eq_zero h; subst this; rw [co_nil]; rfl
  | n + 1, i, s, w :: ws, h, hs => by
    rw [List.range'_succ, List.map_cons]
    show (if s = i then (1 : Rat) else 0) * w + dotR _ ws = _
    by_cases e : s = i
    · subst e
      have z : (List.range' (s + 1) n).map (fun k => if k = s then (1 : Rat) else 0) = List.replicate n 0 := by
        apply List.ext_getElem (by simp)
        intro j h1 h2
        simp only [List.getElem_map, List.getElem_range', List.getElem_replicate]
        rw [if_neg (by omega)]
      rw [z, dot_zeros, if_pos rfl, Nat.sub_self]
      unfold co
      simp
      try grind
    · rw [if_neg e, dot_unit n i (s + 1) ws (by simpa using h) (by omega)]
      have e2 : i - s = (i - (s + 1)) + 1 := by omega
      rw [e2]
      unfold co
      simp
      try grind
theorem dot_comm : ∀ (as bs : List Rat), dotR as bs = dotR bs as
  | [], bs => by rw [dot_nil]; rfl
  | a :: as, [] => by rw [dot_nil]; rfl
  | a :: as, b :: bs => by show a * b + dotR as bs = b * a + dotR bs as; rw [dot_comm as bs]; grind
theorem dot_unit0 {n i : Nat} {ws : List Rat} (h : ws.length = n) : dotR ((List.range n).map fun k => if k = i then (1 : Rat) else 0) ws = co ws i := by
  rw [List.range_eq_range', dot_unit n i 0 ws h (Nat.zero_le _)]; rfl
theorem idCh_q (N : Nat) : ChQ N 1 1 (idCh N) where
  l1 := by simp [idCh]
  l2 := by simp [idCh]
  lr := fun r hr => by obtain ⟨i, _, rfl⟩ := List.mem_map.mp hr; simp
  b1 := fun r hr q hq => by
    obtain ⟨i, _, rfl⟩ := List.mem_map.mp hr
    obtain ⟨k, _, rfl⟩ := List.mem_map.mp hq
    split
    · exact ⟨1, by grind, by decide⟩
    · exact (Bd.zero 1).mono (by decide)
  b2 := fun q hq => by
    have : q = 0 := List.eq_of_mem_replicate hq
    rw [this]; exact (Bd.zero 1).mono (by decide)
theorem dot_zerosr (n : Nat) (ws : List Rat) : dotR ws (List.replicate n 0) = 0 := by rw [dot_comm, dot_zeros]
theorem join_id_l {N D B : Nat} {A : Ch} (h : ChQ N D B A) : joinR N (idCh N) A = A := by
  obtain ⟨rows, rests⟩ := A
  have l1 := h.l1
  have l2 := h.l2
  dsimp only at l1 l2
  unfold joinR idCh ledR
  dsimp only
  congr 1
  · apply List.ext_getElem (by simp)
    intro i h1 h2
    rw [List.getElem_map]
    have hl : (rows[i]'h2).length = N := h.lr _ (List.getElem_mem h2)
    apply List.ext_getElem (by simp [rowJ, hl])
    intro j h3 h4
    have hj : j < N := by simpa [rowJ] using h3
    simp only [rowJ, List.getElem_map, List.getElem_range]
    have e : colR ((List.range N).map fun i => (List.range N).map fun k => if k = i then (1 : Rat) else 0) j = (List.range N).map fun k => if k = j then (1 : Rat) else 0 := by
      unfold colR
      rw [List.map_map]
      apply List.ext_getElem (by simp)
      intro m h5 h6
      simp only [List.getElem_map, List.getElem_range, Function.comp]
      rw [co_lt (by simpa using hj)]
      simp only [List.getElem_map, List.getElem_range]
      by_cases e : j = m
      · rw [if_pos e, if_pos e.symm]
      · rw [if_neg e, if_neg (fun z => e z.symm)]
    rw [e, dot_comm, dot_unit0 hl, co_lt h4]
  · apply List.ext_getElem (by simp; omega)
    intro i h1 h2
    simp only [List.getElem_map, List.getElem_zip]
    rw [dot_zerosr]; grind
theorem join_id_r {N D B : Nat} {A : Ch} (h : ChQ N D B A) : joinR N A (idCh N) = A := by
  obtain ⟨rows, rests⟩ := A
  have l1 := h.l1
  have l2 := h.l2
  dsimp only at l1 l2
  unfold joinR idCh ledR
  dsimp only
  congr 1
  · apply List.ext_getElem (by simp [l1])
    intro i h1 h2
    simp only [List.getElem_map, List.getElem_range]
    have hl : (rows[i]'h2).length = N := h.lr _ (List.getElem_mem h2)
    apply List.ext_getElem (by simp [rowJ, hl])
    intro j h3 h4
    simp only [rowJ, List.getElem_map, List.getElem_range]
    rw [dot_unit0 (by unfold colR; simp [l1])]
    unfold colR
    rw [co_lt (by simpa using h2), List.getElem_map, co_lt h4]
  · apply List.ext_getElem (by simp [l2])
    intro i h1 h2
    simp only [List.getElem_map, List.getElem_zip, List.getElem_range, List.getElem_replicate]
    rw [dot_unit0 l2, co_lt h2]; grind
/-- a loop that appends -/
theorem forN_app {α β ε : Type} {xs : List α} {b : α → ε → Pm ε} (enc : List β → ε) (g : α → β) (n : Nat) (ys : List β) (hl : ys.length + xs.length ≤ n) (hb : ∀ x ∈ xs, ∀ ys : List β, ys.length < n → b x (enc ys) = .ok (enc (ys ++ [g x]))) : forN xs (enc ys) b = .ok (enc (ys ++ xs.map g)) := by
  induction xs generalizing ys with
  | nil => rw [List.map_nil, List.append_nil]; rfl
  | cons x xs ih =>
    unfold forN
    rw [List.length_cons] at hl
    rw [hb x List.mem_cons_self ys (by omega), bd_ok, ih (ys ++ [g x]) (by simp; omega) fun y hy => hb y (List.mem_cons_of_mem _ hy), List.append_assoc]
    rfl
theorem filP_eq {α β : Type} {xs : List α} {b : α → Pm (Option β)} (t : α → Bool) (g : α → β) (hb : ∀ x ∈ xs, b x = .ok (if t x = true then some (g x) else none)) : filP xs b = .ok ((xs.filter t).map g) := by
  induction xs with
  | nil => rfl
  | cons x xs ih =>
    unfold filP
    rw [hb x List.mem_cons_self, bx_ok, ih fun z hz => hb z (List.mem_cons_of_mem _ hz), List.filter_cons]
    cases t x <;> rfl
theorem rg_nat (n : Nat) : rg 0 (n : Int) = (List.range n).map fun k => ((k : Nat) : Int) := by
  unfold rg
  simp
theorem encRow_co (r : List Rat) {j : Nat} (h : j < r.length) {ω : Type} (k : Int × Int → Pm ω) : ixP (r.map shr) (j : Int) k = k (shr (co r j)) := by
  rw [ix_eq (by omega) (by rw [List.length_map]; omega)]
  rw [co_lt h]
  simp
/-! what charts show -/
abbrev encCh : Ch → List (List (Int × Int)) × List (Int × Int) := fun A => (A.1.map (·.map shr), A.2.map shr)
theorem nb_row {qs : List Rat} {n p N : Nat} (h : ∀ q ∈ qs, Sz n q) (hn : n ≤ 1900) (hl : qs.length ≤ N) : NB (N * (2 * n + 3)) (p + 2) ((dT (dP2 PyData.int PyData.int)) (qs.map shr)) := by
  refine nb_tup (NBL.mono (nbl_map (w := 2 * n + 2) (p := p + 1) (xs := qs.map shr) (t := dP2 PyData.int PyData.int) fun x hx => ?_) ?_ (Nat.le_refl _))
  · obtain ⟨q, hq, rfl⟩ := List.mem_map.mp hx
    exact nb_sh (h q hq) hn
  · rw [List.length_map]; exact Nat.mul_le_mul_right _ hl
theorem nb_chart {A : Ch} {N D B n p : Nat} (h : ChQ N D B A) (h0 : 0 < D) (hD : D < 2 ^ n) (hB : B < 2 ^ n) (hn : n ≤ 1900) : NB (N * (N * (2 * n + 3) + 1) + N * (2 * n + 3) + 2) (p + 4) ((dP2 (dT (dT (dP2 PyData.int PyData.int))) (dT (dP2 PyData.int PyData.int))) (encCh A)) := by
  have s1 : ∀ r ∈ A.1, ∀ q ∈ r, Sz n q := fun r hr q hq => (h.b1 r hr q hq).sz h0 hD hB
  have s2 : ∀ q ∈ A.2, Sz n q := fun q hq => (h.b2 q hq).sz h0 hD hB
  refine (nb_tup (nbl_cons (w := N * (N * (2 * n + 3) + 1)) (nb_tup (p := p + 2) (NBL.mono (nbl_map (w := N * (2 * n + 3)) (p := p + 2) (xs := A.1.map (·.map shr)) (t := dT (dP2 PyData.int PyData.int)) fun x hx => ?_) ?_ (Nat.le_refl _))) (nbl_cons (w := N * (2 * n + 3)) ((nb_row (p := p) s2 hn (by rw [h.l2]; exact Nat.le_refl _)).mono (Nat.le_refl _) (by omega)) nbl_nil))).mono (by omega) (Nat.le_refl _)
  · obtain ⟨r, hr, rfl⟩ := List.mem_map.mp hx
    exact nb_row (s1 r hr) hn (by rw [h.lr r hr]; exact Nat.le_refl _)
  · rw [List.length_map, h.l1]; exact Nat.le_refl _
end LW
namespace LW
open PySem PySem.Spec PyProof.Rows L2 DL TL
/-- the loop of the greatest divisor, with two names ahead -/
theorem gcd_loop4 (u d : Int) (t : Int → Bool) (ht : ∀ y, 0 ≤ y → t y = decide (y ≠ 0)) (f : Int × Int × Int × Int × Unit → Pm (Fl (Int × Int × Int × Int × Unit) (Int × Int × Int × Int × Unit))) (hf : ∀ x y, 0 ≤ x → 0 ≤ y → f (u, d, x, y, ()) = if t y = true then .ok (.nx (u, d, y, x.fmod y, ())) else .ok (.rt (u, d, x, y, ()))) (x y : Int) (hx : 0 ≤ x) (hy : 0 ≤ y) : ∃ z, whP f (u, d, x, y, ()) = .ok (u, d, (Int.gcd x y : Int), z, ()) := by
  have : ∀ (n : Nat) (x y : Int), 0 ≤ x → 0 ≤ y → y.toNat < n → whN f n (u, d, x, y, ()) = .ok (u, d, (Int.gcd x y : Int), 0, ()) := fun n => by
    induction n with
    | zero => intro x y _ _ h; omega
    | succ n ih =>
      intro x y hx hy h
      unfold whN
      rw [hf x y hx hy, ht y hy]
      by_cases e : y = 0
      · subst e
        rw [decide_eq_false (by simp)]
        show Pm.ok (u, d, x, 0, ()) = _
        have : ((Int.gcd x 0 : Nat) : Int) = x := by simp; omega
        rw [this]
      · rw [decide_eq_true e]
        show whN f n (u, d, y, x.fmod y, ()) = _
        have hy0 : 0 < y := by omega
        have h1 := Int.fmod_nonneg hx hy
        have h2 := Int.fmod_lt_of_pos x hy0
        rw [ih y (x.fmod y) hy h1 (by omega), gcd_step x y hx hy0]
  exact ⟨0, whP_of (y.toNat + 1) (this _ x y hx hy (by omega)) (by intro h; cases h)⟩
end LW
namespace LW
open PySem PySem.Spec PyProof.Rows L2 DL TL
def topS (i : Nat) : Stmt := PySem.Challenge.pw_stepwarmth_k80_shares_and_worths_written.main.body.getD i (.Pass ⟨0, 0, 0, 0⟩)
abbrev s_show_share : Stmt := topS 1
abbrev n_show_share : List Str := ["share", "top", "bottom"]
theorem sc_show_share : FnScope n_show_share ["share"] (defScope s_show_share) := ⟨rfl, rfl, rfl, by decide +kernel, rfl, by decide +kernel, by decide +kernel⟩
abbrev s__law_pen : Stmt := topS 4
abbrev n__law_pen : List Str := ["_law_script"]
theorem sc__law_pen : FnScope n__law_pen ["_law_script"] (defScope s__law_pen) := ⟨rfl, rfl, rfl, by decide +kernel, rfl, by decide +kernel, by decide +kernel⟩
abbrev s__law_draw : Stmt := topS 5
abbrev n__law_draw : List Str := ["_law_pen_here", "_law_many", "_law_here", "_law_cell_so", "_law_low", "_law_stirred", "_law_digit"]
theorem sc__law_draw : FnScope n__law_draw ["_law_pen_here", "_law_many"] (defScope s__law_draw) := ⟨rfl, rfl, rfl, by decide +kernel, rfl, by decide +kernel, by decide +kernel⟩
abbrev s__law_share : Stmt := topS 7
abbrev n__law_share : List Str := ["_law_up", "_law_down", "_law_one", "_law_two"]
theorem sc__law_share : FnScope n__law_share ["_law_up", "_law_down"] (defScope s__law_share) := ⟨rfl, rfl, rfl, by decide +kernel, rfl, by decide +kernel, by decide +kernel⟩
abbrev s__law_writ : Stmt := topS 14
abbrev n__law_writ : List Str := ["_law_share_so"]
theorem sc__law_writ : FnScope n__law_writ ["_law_share_so"] (defScope s__law_writ) := ⟨rfl, rfl, rfl, by decide +kernel, rfl, by decide +kernel, by decide +kernel⟩
abbrev s_show_worths : Stmt := topS 2
abbrev n_show_worths : List Str := ["worths", "worth"]
theorem sc_show_worths : FnScope n_show_worths ["worths"] (defScope s_show_worths) := ⟨rfl, rfl, rfl, by decide +kernel, rfl, by decide +kernel, by decide +kernel⟩
abbrev s__law_any : Stmt := topS 12
abbrev n__law_any : List Str := ["_law_pen_here", "_law_way", "_law_far", "_law_up", "_law_down"]
theorem sc__law_any : FnScope n__law_any ["_law_pen_here"] (defScope s__law_any) := ⟨rfl, rfl, rfl, by decide +kernel, rfl, by decide +kernel, by decide +kernel⟩
abbrev s_law : Stmt := topS 15
abbrev n_law : List Str := ["_law_script", "_law_pen_here", "_law_turn", "_law_warm", "_law_kept", "_law_one", "_law_due", "_law_found", "_law_k"]
theorem sc_law : FnScope n_law ["_law_script"] (defScope s_law) := ⟨rfl, rfl, rfl, by decide +kernel, rfl, by decide +kernel, by decide +kernel⟩
noncomputable def f_show_share (share : (Int × Int)) : Pm Str :=
  bd (if (decide (share.2 = (1 : Int))) = true then gd (share.1.natAbs.log2 < 1920) (.ok (strI share.1)) else gd (share.1.natAbs.log2 < 1920) (gd ((Str.empty ++ (strI share.1)).length ≤ sizeLine) (gd (((Str.empty ++ (strI share.1)) ++ ("/" : Str)).length ≤ sizeLine) (gd (share.2.natAbs.log2 < 1920) (gd ((((Str.empty ++ (strI share.1)) ++ ("/" : Str)) ++ (strI share.2)).length ≤ sizeLine) (.ok (((Str.empty ++ (strI share.1)) ++ ("/" : Str)) ++ (strI share.2)))))))) fun (z3 : Str) => .ok z3
abbrev P_show_share : DSp := SpV (fun a => ((fun (a : (Int × Int)) => [(dP2 PyData.int PyData.int) a]) a).map .val) (fun (a : (Int × Int)) => f_show_share a) (fun r => .d (PyData.str r))
noncomputable def f_law_pen (script : (List Int)) : Pm ((List Int) × Int × Int) :=
  .ok ((cut script none (some (63 : Int))), (0 : Int), (0 : Int))
abbrev P__law_pen : DSp := SpV (fun a => ((fun (a : (List Int)) => [(dL PyData.int) a]) a).map .val) (fun (a : (List Int)) => f_law_pen a) (fun r => .m ((mP3 (dL PyData.int) PyData.int PyData.int) r))
noncomputable def f_law_draw (pen_here : ((List Int) × Int × Int)) (many : Int) : Pm (Int × ((List Int) × Int × Int)) :=
  if (decide ((0 : Int) < pen_here.2.2)) = true then gd (many ≠ 0) (lt (pen_here.2.2.fmod many) fun digit47 => gd (many ≠ 0 ∧ many.natAbs.log2 < 9000) (.ok (digit47, (pen_here.1, pen_here.2.1, (pen_here.2.2.fdiv many))))) else lt ((83009 * pen_here.2.1) + (37 : Int)) fun cell_so54 => bd (if (decide ((0 : Int) < (pen_here.1.length : Int))) = true then gd ((pen_here.1.length : Int) ≠ 0) (ixP pen_here.1 (pen_here.2.1.fmod (pen_here.1.length : Int)) fun x55 => .ok ((pen_here.1, (pen_here.2.1 + (1 : Int)), pen_here.2.2), many, pen_here.2.1, x55, ())) else .ok ((pen_here.1, (pen_here.2.1 + (1 : Int)), pen_here.2.2), many, pen_here.2.1, cell_so54, ())) fun (s56 : ((List Int) × Int × Int) × Int × Int × Int × Unit) => if ((decide (s56.2.2.1 < (s56.1.1.length : Int))) && (decide ((1000000000000000000 : Int) ≤ (s56.2.2.2.1.natAbs : Int)))) = true then gd (s56.2.1 ≠ 0 ∧ s56.2.1.natAbs.log2 < 9000) (gd (s56.2.1 ≠ 0) (.ok (((s56.2.2.2.1.natAbs : Int).fmod s56.2.1), (s56.1.1, s56.1.2.1, ((s56.2.2.2.1.natAbs : Int).fdiv s56.2.1))))) else gd (MulFit (60029 * s56.2.2.1) s56.2.2.1) (lt ((((s56.2.2.2.1.fmod 2147483497) + ((60029 * s56.2.2.1) * s56.2.2.1)) + (20011 * s56.2.2.1)) + (43 : Int)) fun low57 => gd (low57.natAbs < 18446744073709551616) (lt ((low57 ^ (3 : Int).toNat).fmod 2147483629) fun stirred58 => gd (((stirred58 + (23 * s56.2.2.1)) + (11 : Int)).natAbs < 18446744073709551616) (gd (MulFit (((stirred58 + (23 * s56.2.2.1)) + (11 : Int)) ^ (2 : Int).toNat) ((stirred58.fmod 80021) + (7 : Int))) (lt (((((stirred58 + (23 * s56.2.2.1)) + (11 : Int)) ^ (2 : Int).toNat) * ((stirred58.fmod 80021) + (7 : Int))).fmod 2147483549) fun stirred59 => gd (s56.2.1 ≠ 0) (.ok (((stirred59.fdiv 64).fmod s56.2.1), s56.1))))))
abbrev P__law_draw : DSp := SpO (fun a => ((fun (a : Int) => [PyData.int a]) a).map .val) (fun m (a : Int) => f_law_draw m a) (fun r => .d (PyData.int r)) (mP3 (dL PyData.int) PyData.int PyData.int)
noncomputable def f_law_share (up : Int) (down : Int) : Pm (Int × Int) :=
  bd (whP (fun (s11 : Int × Int × Int × Int × Unit) => if (!decide (s11.2.2.2.1 = (0 : Int))) = true then gd (s11.2.2.2.1 ≠ 0) (.ok (.nx (s11.1, s11.2.1, s11.2.2.2.1, (s11.2.2.1.fmod s11.2.2.2.1), ()))) else .ok (.rt (s11.1, s11.2.1, s11.2.2.1, s11.2.2.2.1, ()))) (up, down, (up.natAbs : Int), (down.natAbs : Int), ())) fun (s12 : Int × Int × Int × Int × Unit) => bd (if (decide (s12.2.1 < (0 : Int))) = true then lt ((0 : Int) - s12.2.2.1) fun one15 => .ok (s12.1, s12.2.1, one15, ()) else .ok (s12.1, s12.2.1, s12.2.2.1, ())) fun (s14 : Int × Int × Int × Unit) => gd (s14.2.2.1 ≠ 0 ∧ s14.2.2.1.natAbs.log2 < 9000) (gd (s14.2.2.1 ≠ 0 ∧ s14.2.2.1.natAbs.log2 < 9000) (.ok ((s14.1.fdiv s14.2.2.1), (s14.2.1.fdiv s14.2.2.1))))
abbrev P__law_share : DSp := SpV (fun a => ((fun (a : Int × Int) => [PyData.int a.1, PyData.int a.2]) a).map .val) (fun (a : Int × Int) => f_law_share a.1 a.2) (fun r => .d ((dP2 PyData.int PyData.int) r))
noncomputable def f_law_writ (share_so : (Int × Int)) : Pm Str :=
  if (decide (share_so.2 = (1 : Int))) = true then gd (share_so.1.natAbs.log2 < 1920) (.ok (strI share_so.1)) else gd (share_so.1.natAbs.log2 < 1920) (gd ((strI share_so.1).length + ("/" : Str).length ≤ sizeLine) (gd (share_so.2.natAbs.log2 < 1920) (gd (((strI share_so.1) ++ ("/" : Str)).length + (strI share_so.2).length ≤ sizeLine) (.ok (((strI share_so.1) ++ ("/" : Str)) ++ (strI share_so.2))))))
abbrev P__law_writ : DSp := SpV (fun a => ((fun (a : (Int × Int)) => [(dP2 PyData.int PyData.int) a]) a).map .val) (fun (a : (Int × Int)) => f_law_writ a) (fun r => .d (PyData.str r))
noncomputable def f_show_worths (worths : (List (Int × Int))) : Pm Str :=
  lnP worths fun _ => bx (mapP worths fun (x1 : (Int × Int)) => bd (f_show_share x1) fun r2 => .ok r2) fun ysx1 => gd ((ysx1.map (·.length)).sum + ysx1.length * (" " : Str).length ≤ 16777216) (.ok (Txt.join (" " : Str) ysx1))
abbrev P_show_worths : DSp := SpV (fun a => ((fun (a : (List (Int × Int))) => [(dT (dP2 PyData.int PyData.int)) a]) a).map .val) (fun (a : (List (Int × Int))) => f_show_worths a) (fun r => .d (PyData.str r))
noncomputable def f_law_any (pen_here : ((List Int) × Int × Int)) : Pm ((Int × Int) × ((List Int) × Int × Int)) :=
  bd (f_law_draw pen_here (8 : Int)) fun r1 => bd (f_law_draw r1.2 (1000000 : Int)) fun r154 => gd (MulFit r154.1 (1000000 : Int)) (bd (f_law_draw r154.2 (1000000 : Int)) fun r155 => lt ((r154.1 * (1000000 : Int)) + r155.1) fun far179 => bd (f_law_draw r155.2 (19 : Int)) fun r187 => bd (f_law_draw r187.2 (19 : Int)) fun r189 => bd (f_law_draw r189.2 (199 : Int)) fun r191 => ixP [(0 : Int), (1 : Int), (-(1 : Int)), (r187.1 - (9 : Int)), (r189.1 - (9 : Int)), (r191.1 - (99 : Int)), far179, ((0 : Int) - far179)] r1.1 fun x192 => bd (f_law_draw r191.2 (12 : Int)) fun r205 => bd (f_law_draw r205.2 (12 : Int)) fun r206 => bd (f_law_draw r206.2 (6 : Int)) fun r207 => ixP [(1 : Int), (1 : Int), (2 : Int), (3 : Int), ((1 : Int) + r205.1), ((1 : Int) + r206.1)] r207.1 fun x208 => bd (f_law_draw r207.2 (16 : Int)) fun r214 => ixP [x208, (max (1 : Int) far179)] (if (decide (r214.1 = (0 : Int))) = true then (1 : Int) else 0) fun x215 => bd (f_law_share x192 x215) fun r216 => .ok (r216, r214.2))
abbrev P__law_any : DSp := SpO (fun a => ((fun (a : Unit) => []) a).map .val) (fun m (a : Unit) => f_law_any m ) (fun r => .d ((dP2 PyData.int PyData.int) r)) (mP3 (dL PyData.int) PyData.int PyData.int)
noncomputable def f_law (script : (List Int)) : Pm Bool :=
  bd (f_law_pen script) fun r1 => rgP 0 (6 : Int) fun xs256 => bd (forF xs256 (r1, ()) fun (x257 : Int) (s258 : ((List Int) × Int × Int) × Unit) => bd (f_law_draw s258.1 (16 : Int)) fun r260 => rgP 0 ((1 : Int) + r260.1) fun xs259 => lnP xs259 fun _ => bx (mapS xs259 (r260.2, x257, ()) fun (x261 : Int) (sx261 : ((List Int) × Int × Int) × Int × Unit) => bd (f_law_any sx261.1) fun r263 => .ok (r263.1, (r263.2, sx261.2.1, ()))) fun px261 => gd (RepOk ((dT (dP2 PyData.int PyData.int)) px261.1)) (lt (((dT (dP2 PyData.int PyData.int)) px261.1).shown) fun kept309 => bd (forF px261.1 (px261.2.1, px261.1, kept309, ()) fun (x310 : (Int × Int)) (s311 : ((List Int) × Int × Int) × (List (Int × Int)) × Str × Unit) => bd (f_show_share x310) fun r312 => bd (if (!(isiD "str" (PyData.str r312))) = true then .ok true else bd (f_law_writ x310) fun r328 => if (!decide (r312 = r328)) = true then .ok true else bd (f_show_share x310) fun r330 => .ok (!decide (r330 = r312))) fun (z331 : Bool) => if z331 = true then .ok (.rt false) else .ok (.nx (s311.1, s311.2.1, s311.2.2.1, ()))) fun fl319 => flm fl319 (fun (s318 : ((List Int) × Int × Int) × (List (Int × Int)) × Str × Unit) => lnP s318.2.1 fun _ => bx (mapP s318.2.1 fun (x332 : (Int × Int)) => bd (f_law_writ x332) fun r333 => .ok r333) fun ysx332 => gd ((ysx332.map (·.length)).sum + ysx332.length * (" " : Str).length ≤ 16777216) (lt (Txt.join (" " : Str) ysx332) fun due339 => bd (bd (f_show_worths s318.2.1) fun r341 => if (!decide (r341 = due339)) = true then .ok true else bd (f_show_worths s318.2.1) fun r343 => if (!decide (r343 = due339)) = true then .ok true else gd (RepOk ((dT (dP2 PyData.int PyData.int)) s318.2.1)) (.ok (!decide (((dT (dP2 PyData.int PyData.int)) s318.2.1).shown = s318.2.2.1)))) fun (z344 : Bool) => if z344 = true then .ok (.rt false) else .ok (.nx (s318.1, ())))) (fun r => .ok (.rt r)))) fun fl282 => flm fl282 (fun (s281 : ((List Int) × Int × Int) × Unit) => bd (f_show_share ((0 : Int), (1 : Int))) fun r351 => bd (f_show_share ((-(1 : Int)), (2 : Int))) fun r352 => bd (f_show_share ((-(7 : Int)), (1 : Int))) fun r353 => gd (SeqAt.shaped ((dL PyData.str) [r351, r352, r353]) = true ∧ SeqAt.shaped ((dL PyData.str) [("0" : Str), ("-1/2" : Str), ("-7" : Str)]) = true) (.ok (PyData.eqv ((dL PyData.str) [r351, r352, r353]) ((dL PyData.str) [("0" : Str), ("-1/2" : Str), ("-7" : Str)])))) (fun r => .ok r)
abbrev P_law : DSp := SpV (fun a => ((fun (a : (List Int)) => [(dL PyData.int) a]) a).map .val) (fun (a : (List Int)) => f_law a) (fun r => .d (PyData.bool r))
section
variable {P : Program} {w : World} {K : PySem.W.Frag} {mg : Str → Option Value} {base : Heap}
theorem ok_show_share {f : Addr} {fd : FuncData} (F : L2.Fun K "show_share" "show_share" s_show_share f fd) (hm : mg "show_share" = some (.ref f)) (B : BaseG P base) (z_str : mg "str" = none) : Cal P w K mg base 1 "show_share" s_show_share ["share"] P_show_share := by
  refine t_calV (k := 0) (E0 := (EnV (dP2 PyData.int PyData.int) (EnX (EnX EnN)))) (EN := EnF) F hm sc_show_share (fun _ _ _ _ _ _ us hl => match us, hl with | [_], _ => rfl) (fun (a : (Int × Int)) => [(dP2 PyData.int PyData.int) a]) (by intro _; rfl) PyData.str (fun (a : (Int × Int)) => f_show_share a) (fun a => (a, ())) (fun _ => ⟨_, rfl, ⟨_, _, rfl, ⟨_, _, rfl, rfl⟩⟩⟩)
    (fun cdv A outer s H E c hr hp =>
    (ts_cons (ts_asg (tm_name (T := (dP2 PyData.int PyData.int)) (de_name 0) sv0) (tg_tup (T := (dP2 PyData.int PyData.int)) (m := 2) (fun (p : (Int × Int)) => (p.1, p.2, ())) rfl (tgs_cons (tg_name (T := PyData.int) (dg_name 1 sc_show_share.nd) (ssV (ssXV (T := PyData.int)))) (tgs_cons (tg_name (T := PyData.int) (dg_name 2 sc_show_share.nd) (ssV (ssV (ssXV (T := PyData.int))))) tgs_nil)) (by intro _; rfl) (by intro _; rfl))) (ts_one (ts_ret (fun a _ => a) (tm_joinP (tm_if (tb_cmp (op_eqD hr B) opc_eqI (tm_name (T := PyData.int) (de_name 2) (svV (svV sv0))) (tr_of (tm_c (T := PyData.int) dev_int 1 rfl)) (nobehind _ (by decide) (by decide))) (tm_call1 (fun h => dev_callT call_strD (by rfl) z_str boot_str' h) cd_strI (tr_of (tm_name (T := PyData.int) (de_name 1) (svV sv0)))) (tm_joined (tj_cons (tm_fmtI (tm_name (T := PyData.int) (de_name 1) (svV sv0))) (tj_cons (tm_c (T := PyData.str) dev_str "/" rfl) (tj_cons (tm_fmtI (tm_name (T := PyData.int) (de_name 2) (svV (svV sv0)))) tj_nil))))) (by intro _ _ _; rfl)) (ret_v (lnV ln0)))))) nb (fun _ _ _ h => h.elim) ?_
  intro _; rfl
theorem ok__law_pen {f : Addr} {fd : FuncData} (F : L2.Fun K "_law_pen" "_law_pen" s__law_pen f fd) (hm : mg "_law_pen" = some (.ref f)) (B : BaseG P base) : Cal P w K mg base 1 "_law_pen" s__law_pen ["_law_script"] P__law_pen := by
  refine t_calM (k := 0) (E0 := (EnV (dL PyData.int) EnN)) F hm sc__law_pen (fun _ _ _ _ _ _ us hl => match us, hl with | [_], _ => rfl) (fun (a : (List Int)) => [(dL PyData.int) a]) (by intro _; rfl) (mP3 (dL PyData.int) PyData.int PyData.int) (fun (a : (List Int)) => f_law_pen a) (fun a => (a, ())) (fun _ => ⟨_, rfl, rfl⟩)
    (fun cdv A outer s H E c hr hp =>
    (ts_one (ts_retM (fun a _ => a) (tn_lst (T := (mP3 (dL PyData.int) PyData.int PyData.int)) (fun (p : (List Int) × Int × Int × Unit) => (p.1, p.2.1, p.2.2.1)) (ta_cons (tm_sl (sl_list (t := PyData.int)) (tm_name (T := (dL PyData.int)) (de_name 0) sv0) to_none (to_some (tr_of (tm_c (T := PyData.int) dev_int 63 rfl)))) (ta_cons (tm_c (T := PyData.int) dev_int 0 rfl) (ta_cons (tm_c (T := PyData.int) dev_int 0 rfl) ta_nil))) (by intro _; rfl) (fun _ => Nat.le_of_ble_eq_true rfl)) (ret_m (lnV ln0))))) ?_
  intro _; rfl
theorem ok__law_draw {f : Addr} {fd : FuncData} (F : L2.Fun K "_law_draw" "_law_draw" s__law_draw f fd) (hm : mg "_law_draw" = some (.ref f)) (B : BaseG P base) (z_abs : mg "abs" = none) (z_len : mg "len" = none) : Cal P w K mg base 1 "_law_draw" s__law_draw ["_law_pen_here", "_law_many"] P__law_draw := by
  refine t_calO (k := 0) (E0 := (EnO (mP3 (dL PyData.int) PyData.int PyData.int) (EnV PyData.int (EnX (EnX (EnX (EnX (EnX EnN)))))))) (EN := EnF) F hm sc__law_draw (fun _ _ _ _ _ _ us hl => match us, hl with | [_, _], _ => rfl) (fun (a : Int) => [PyData.int a]) (by intro _; rfl) PyData.int (mP3 (dL PyData.int) PyData.int PyData.int) (fun m (a : Int) => f_law_draw m a) (fun m a => (m, a, ())) (fun _ _ => ⟨_, rfl, ⟨_, rfl, ⟨_, _, rfl, ⟨_, _, rfl, ⟨_, _, rfl, ⟨_, _, rfl, ⟨_, _, rfl, rfl⟩⟩⟩⟩⟩⟩⟩)
    (fun cdv A outer s H E c hr hp =>
    (ts_cons (ts_if (tb_cmp op_gtD opc_gtI (tm_ixc (T3 := PyData.int) (fun (p : ((List Int) × Int × Int)) => p.2.2) (tr_own (T := (dQ3 (dL PyData.int) PyData.int PyData.int)) (de_name 0) so0 (by intro _; rfl)) dev_int (by intro _ _ h; exact h)) (tr_of (tm_c (T := PyData.int) dev_int 0 rfl)) (nobehind _ (by decide) (by decide))) (ts_cons (ts_set (fun h => st_set 6 sc__law_draw.nd h) (tm_bin op_modD opc_modI (tm_ixc (T3 := PyData.int) (fun (p : ((List Int) × Int × Int)) => p.2.2) (tr_own (T := (dQ3 (dL PyData.int) PyData.int PyData.int)) (de_name 0) so0 (by intro _; rfl)) dev_int (by intro _ _ h; exact h)) (tr_of (tm_name (T := PyData.int) (de_name 1) (svO sv0)))) (ssO (ssV (ssX (ssX (ssX (ssX (ssXV (T := PyData.int))))))))) (ts_cons (ts_storec (fun (a : ((List Int) × Int × Int)) (d : Int) => (a.1, a.2.1, d)) (fun h1 h2 => st_store 0 h1 h2) dev_int (by intro _ _ _ h; exact h) (tm_bin op_fdivD opc_fdivI (tm_ixc (T3 := PyData.int) (fun (p : ((List Int) × Int × Int)) => p.2.2) (tr_own (T := (dQ3 (dL PyData.int) PyData.int PyData.int)) (de_name 0) so0 (by intro _; rfl)) dev_int (by intro _ _ h; exact h)) (tr_of (tm_name (T := PyData.int) (de_name 1) (svO sv0)))) so0 (ssOO (TM := (mP3 (dL PyData.int) PyData.int PyData.int)))) (ts_one (ts_ret _ (tm_name (T := PyData.int) (de_name 6) (svO (svV (svX (svX (svX (svX sv0))))))) (ret_o so0 (lnO (lnV ln0))))))) ts_nil) (ts_cons (ts_set (fun h => st_set 2 sc__law_draw.nd h) (tm_ixc (T3 := PyData.int) (fun (p : ((List Int) × Int × Int)) => p.2.1) (tr_own (T := (dQ3 (dL PyData.int) PyData.int PyData.int)) (de_name 0) so0 (by intro _; rfl)) dev_int (by intro _ _ h; exact h)) (ssO (ssV (ssXV (T := PyData.int))))) (ts_cons (ts_storec (fun (a : ((List Int) × Int × Int)) (d : Int) => (a.1, d, a.2.2)) (fun h1 h2 => st_store 0 h1 h2) dev_int (by intro _ _ _ h; exact h) (tm_bin op_addD opc_addI (tm_name (T := PyData.int) (de_name 2) (svO (svV sv0))) (tr_of (tm_c (T := PyData.int) dev_int 1 rfl))) so0 (ssOO (TM := (mP3 (dL PyData.int) PyData.int PyData.int)))) (ts_cons (ts_set (fun h => st_set 3 sc__law_draw.nd h) (tm_bin op_addD opc_addI (tm_binL op_mulD (opl_mul (by decide +kernel)) dev_int (tr_of (tm_name (T := PyData.int) (de_name 2) (svO (svV sv0))))) (tr_of (tm_c (T := PyData.int) dev_int 37 rfl))) (ssO (ssV (ssV (ssXV (T := PyData.int)))))) (ts_cons (ts_join (ts_if (tb_cmp op_gtD opc_gtI (tm_call1 (fun h => dev_callB call_lenD (by rfl) z_len boot_len' h) (cd_lenL (t := PyData.int)) (tr_of (tm_ixc (T3 := (dL PyData.int)) (fun (p : ((List Int) × Int × Int)) => p.1) (tr_own (T := (dQ3 (dL PyData.int) PyData.int PyData.int)) (de_name 0) so0 (by intro _; rfl)) dev_int (by intro _ _ h; exact h)))) (tr_of (tm_c (T := PyData.int) dev_int 0 rfl)) (nobehind _ (by decide) (by decide))) (ts_wk (ts_one (ts_set (fun h => st_set 3 sc__law_draw.nd h) (tm_ix ixd (opc_ixL (t := PyData.int)) (tm_ixc (T3 := (dL PyData.int)) (fun (p : ((List Int) × Int × Int)) => p.1) (tr_own (T := (dQ3 (dL PyData.int) PyData.int PyData.int)) (de_name 0) so0 (by intro _; rfl)) dev_int (by intro _ _ h; exact h)) (tr_of (tm_bin op_modD opc_modI (tm_name (T := PyData.int) (de_name 2) (svO (svV sv0))) (tr_of (tm_call1 (fun h => dev_callB call_lenD (by rfl) z_len boot_len' h) (cd_lenL (t := PyData.int)) (tr_of (tm_ixc (T3 := (dL PyData.int)) (fun (p : ((List Int) × Int × Int)) => p.1) (tr_own (T := (dQ3 (dL PyData.int) PyData.int PyData.int)) (de_name 0) so0 (by intro _; rfl)) dev_int (by intro _ _ h; exact h)))))))) (ssO (ssV (ssV (ssVV (T := PyData.int))))))) wkR) (ts_wk ts_nil wkR))) (ts_cons (ts_if (tb_w (tw_andT _ _ (tb_cmp op_ltD opc_ltI (tm_name (T := PyData.int) (de_name 2) (svO (svV sv0))) (tr_of (tm_call1 (fun h => dev_callB call_lenD (by rfl) z_len boot_len' h) (cd_lenL (t := PyData.int)) (tr_of (tm_ixc (T3 := (dL PyData.int)) (fun (p : ((List Int) × Int × Int)) => p.1) (tr_own (T := (dQ3 (dL PyData.int) PyData.int PyData.int)) (de_name 0) so0 (by intro _; rfl)) dev_int (by intro _ _ h; exact h))))) (nobehind _ (by decide) (by decide))) (tw_and1 (tb_cmp op_geD opc_geI (tm_call1 (fun h => dev_callB call_absD (by rfl) z_abs boot_abs' h) cd_abs (tr_of (tm_name (T := PyData.int) (de_name 3) (svO (svV (svV sv0)))))) (tr_of (tm_powc 1000000000000000000 dev_int dev_int (by decide +kernel) (by decide +kernel))) (nobehind _ (by decide) (by decide)))) (by intro _ _ _; rfl) (by intro _ _ _; rfl))) (ts_cons (ts_storec (fun (a : ((List Int) × Int × Int)) (d : Int) => (a.1, a.2.1, d)) (fun h1 h2 => st_store 0 h1 h2) dev_int (by intro _ _ _ h; exact h) (tm_bin op_fdivD opc_fdivI (tm_call1 (fun h => dev_callB call_absD (by rfl) z_abs boot_abs' h) cd_abs (tr_of (tm_name (T := PyData.int) (de_name 3) (svO (svV (svV sv0)))))) (tr_of (tm_name (T := PyData.int) (de_name 1) (svO sv0)))) so0 (ssOO (TM := (mP3 (dL PyData.int) PyData.int PyData.int)))) (ts_one (ts_ret _ (tm_bin op_modD opc_modI (tm_call1 (fun h => dev_callB call_absD (by rfl) z_abs boot_abs' h) cd_abs (tr_of (tm_name (T := PyData.int) (de_name 3) (svO (svV (svV sv0)))))) (tr_of (tm_name (T := PyData.int) (de_name 1) (svO sv0)))) (ret_o so0 (lnO (lnV ln0)))))) ts_nil) (ts_cons (ts_set (fun h => st_set 4 sc__law_draw.nd h) (tm_bin op_addD opc_addI (tm_bin op_addD opc_addI (tm_bin op_addD opc_addI (tm_binR op_modD (opr_mod (by decide +kernel)) (tr_of (tm_name (T := PyData.int) (de_name 3) (svO (svV (svV sv0))))) dev_int) (tr_of (tm_bin op_mulD opc_mulI (tm_binL op_mulD (opl_mul (by decide +kernel)) dev_int (tr_of (tm_name (T := PyData.int) (de_name 2) (svO (svV sv0))))) (tr_of (tm_name (T := PyData.int) (de_name 2) (svO (svV sv0))))))) (tr_of (tm_binL op_mulD (opl_mul (by decide +kernel)) dev_int (tr_of (tm_name (T := PyData.int) (de_name 2) (svO (svV sv0))))))) (tr_of (tm_c (T := PyData.int) dev_int 43 rfl))) (ssO (ssV (ssV (ssV (ssXV (T := PyData.int))))))) (ts_cons (ts_set (fun h => st_set 5 sc__law_draw.nd h) (tm_binR op_modD (opr_mod (by decide +kernel)) (tr_of (tm_binR op_powD (opr_pow (by decide +kernel)) (tr_of (tm_name (T := PyData.int) (de_name 4) (svO (svV (svV (svV sv0)))))) dev_int)) dev_int) (ssO (ssV (ssV (ssV (ssV (ssXV (T := PyData.int)))))))) (ts_cons (ts_set (fun h => st_set 5 sc__law_draw.nd h) (tm_binR op_modD (opr_mod (by decide +kernel)) (tr_of (tm_bin op_mulD opc_mulI (tm_binR op_powD (opr_pow (by decide +kernel)) (tr_of (tm_bin op_addD opc_addI (tm_bin op_addD opc_addI (tm_name (T := PyData.int) (de_name 5) (svO (svV (svV (svV (svV sv0)))))) (tr_of (tm_binL op_mulD (opl_mul (by decide +kernel)) dev_int (tr_of (tm_name (T := PyData.int) (de_name 2) (svO (svV sv0))))))) (tr_of (tm_c (T := PyData.int) dev_int 11 rfl)))) dev_int) (tr_of (tm_bin op_addD opc_addI (tm_binR op_modD (opr_mod (by decide +kernel)) (tr_of (tm_name (T := PyData.int) (de_name 5) (svO (svV (svV (svV (svV sv0))))))) dev_int) (tr_of (tm_c (T := PyData.int) dev_int 7 rfl)))))) dev_int) (ssO (ssV (ssV (ssV (ssV (ssVV (T := PyData.int)))))))) (ts_one (ts_ret _ (tm_bin op_modD opc_modI (tm_binR op_fdivD (opr_fdiv (by decide +kernel)) (tr_of (tm_name (T := PyData.int) (de_name 5) (svO (svV (svV (svV (svV sv0))))))) dev_int) (tr_of (tm_name (T := PyData.int) (de_name 1) (svO sv0)))) (ret_o so0 (lnO (lnV ln0))))))))))))))) nb (fun _ _ _ h => h.elim) ?_
  intro _ _; rfl
theorem ok__law_share {f : Addr} {fd : FuncData} (F : L2.Fun K "_law_share" "_law_share" s__law_share f fd) (hm : mg "_law_share" = some (.ref f)) (B : BaseG P base) (z_abs : mg "abs" = none) : Cal P w K mg base 1 "_law_share" s__law_share ["_law_up", "_law_down"] P__law_share := by
  refine t_calV (k := 0) (E0 := (EnV PyData.int (EnV PyData.int (EnX (EnX EnN))))) (EN := EnF) F hm sc__law_share (fun _ _ _ _ _ _ us hl => match us, hl with | [_, _], _ => rfl) (fun (a : Int × Int) => [PyData.int a.1, PyData.int a.2]) (by intro _; rfl) (dP2 PyData.int PyData.int) (fun (a : Int × Int) => f_law_share a.1 a.2) (fun a => (a.1, a.2, ())) (fun _ => ⟨_, rfl, ⟨_, rfl, ⟨_, _, rfl, ⟨_, _, rfl, rfl⟩⟩⟩⟩)
    (fun cdv A outer s H E c hr hp =>
    (ts_cons (ts_par (fun h1 h2 => st_par 2 3 rfl sc__law_share.nd h1 h2) (tm_call1 (fun h => dev_callB call_absD (by rfl) z_abs boot_abs' h) cd_abs (tr_of (tm_name (T := PyData.int) (de_name 0) sv0))) (tm_call1 (fun h => dev_callB call_absD (by rfl) z_abs boot_abs' h) cd_abs (tr_of (tm_name (T := PyData.int) (de_name 1) (svV sv0)))) (ssV (ssV (ssXV (T := PyData.int)))) (ssV (ssV (ssV (ssXV (T := PyData.int)))))) (ts_cons (ts_while wkR (tb_cmp (op_neD hr B) opc_neI (tm_name (T := PyData.int) (de_name 3) (svV (svV (svV sv0)))) (tr_of (tm_c (T := PyData.int) dev_int 0 rfl)) (nobehind _ (by decide) (by decide))) (ts_wk (ts_one (ts_par (fun h1 h2 => st_par 2 3 rfl sc__law_share.nd h1 h2) (tm_name (T := PyData.int) (de_name 3) (svV (svV (svV sv0)))) (tm_bin op_modD opc_modI (tm_name (T := PyData.int) (de_name 2) (svV (svV sv0))) (tr_of (tm_name (T := PyData.int) (de_name 3) (svV (svV (svV sv0)))))) (ssV (ssV (ssVV (T := PyData.int)))) (ssV (ssV (ssV (ssVV (T := PyData.int))))))) wkR)) (ts_cons (ts_join (ts_if (tb_cmp op_ltD opc_ltI (tm_name (T := PyData.int) (de_name 1) (svV sv0)) (tr_of (tm_c (T := PyData.int) dev_int 0 rfl)) (nobehind _ (by decide) (by decide))) (ts_wk (ts_one (ts_set (fun h => st_set 2 sc__law_share.nd h) (tm_bin op_subD opc_subI (tm_c (T := PyData.int) dev_int 0 rfl) (tr_of (tm_name (T := PyData.int) (de_name 2) (svV (svV sv0))))) (ssV (ssV (ssVV (T := PyData.int)))))) (wkV (wkV (wkV (wkVX wkR))))) (ts_wk ts_nil (wkV (wkV (wkV (wkVX wkR))))))) (ts_one (ts_ret (fun a _ => a) (tm_tup (T := (dP2 PyData.int PyData.int)) (fun (p : Int × Int × Unit) => (p.1, p.2.1)) (ta_cons (tm_bin op_fdivD opc_fdivI (tm_name (T := PyData.int) (de_name 0) sv0) (tr_of (tm_name (T := PyData.int) (de_name 2) (svV (svV sv0))))) (ta_cons (tm_bin op_fdivD opc_fdivI (tm_name (T := PyData.int) (de_name 1) (svV sv0)) (tr_of (tm_name (T := PyData.int) (de_name 2) (svV (svV sv0))))) ta_nil)) (by intro _; rfl) (fun _ => Nat.le_of_ble_eq_true rfl)) (ret_v (lnV (lnV ln0))))))))) nb (fun _ _ _ h => h.elim) ?_
  intro _; rfl
theorem ok__law_writ {f : Addr} {fd : FuncData} (F : L2.Fun K "_law_writ" "_law_writ" s__law_writ f fd) (hm : mg "_law_writ" = some (.ref f)) (B : BaseG P base) (z_str : mg "str" = none) : Cal P w K mg base 1 "_law_writ" s__law_writ ["_law_share_so"] P__law_writ := by
  refine t_calV (k := 0) (E0 := (EnV (dP2 PyData.int PyData.int) EnN)) (EN := EnF) F hm sc__law_writ (fun _ _ _ _ _ _ us hl => match us, hl with | [_], _ => rfl) (fun (a : (Int × Int)) => [(dP2 PyData.int PyData.int) a]) (by intro _; rfl) PyData.str (fun (a : (Int × Int)) => f_law_writ a) (fun a => (a, ())) (fun _ => ⟨_, rfl, rfl⟩)
    (fun cdv A outer s H E c hr hp =>
    (ts_cons (ts_if (tb_cmp (op_eqD hr B) opc_eqI (tm_ixc (T3 := PyData.int) (fun (p : (Int × Int)) => p.2) (tr_of (tm_name (T := (dP2 PyData.int PyData.int)) (de_name 0) sv0)) dev_int (by intro _ _ h; exact h)) (tr_of (tm_c (T := PyData.int) dev_int 1 rfl)) (nobehind _ (by decide) (by decide))) (ts_one (ts_ret (fun a _ => a) (tm_call1 (fun h => dev_callT call_strD (by rfl) z_str boot_str' h) cd_strI (tr_of (tm_ixc (T3 := PyData.int) (fun (p : (Int × Int)) => p.1) (tr_of (tm_name (T := (dP2 PyData.int PyData.int)) (de_name 0) sv0)) dev_int (by intro _ _ h; exact h)))) (ret_v (lnV ln0)))) ts_nil) (ts_one (ts_ret (fun a _ => a) (tm_bin op_addD opc_addS (tm_bin op_addD opc_addS (tm_call1 (fun h => dev_callT call_strD (by rfl) z_str boot_str' h) cd_strI (tr_of (tm_ixc (T3 := PyData.int) (fun (p : (Int × Int)) => p.1) (tr_of (tm_name (T := (dP2 PyData.int PyData.int)) (de_name 0) sv0)) dev_int (by intro _ _ h; exact h)))) (tr_of (tm_c (T := PyData.str) dev_str "/" rfl))) (tr_of (tm_call1 (fun h => dev_callT call_strD (by rfl) z_str boot_str' h) cd_strI (tr_of (tm_ixc (T3 := PyData.int) (fun (p : (Int × Int)) => p.2) (tr_of (tm_name (T := (dP2 PyData.int PyData.int)) (de_name 0) sv0)) dev_int (by intro _ _ h; exact h)))))) (ret_v (lnV ln0)))))) nb (fun _ _ _ h => h.elim) ?_
  intro _; rfl
theorem ok_show_worths {f : Addr} {fd : FuncData} (F : L2.Fun K "show_worths" "show_worths" s_show_worths f fd) (hm : mg "show_worths" = some (.ref f)) (B : BaseG P base) (C_show_share : Cal P w K mg base 1 "show_share" s_show_share ["share"] P_show_share) : Cal P w K mg base 2 "show_worths" s_show_worths ["worths"] P_show_worths := by
  refine t_calV (k := 1) (E0 := (EnV (dT (dP2 PyData.int PyData.int)) (EnX EnN))) (EN := EnF) F hm sc_show_worths (fun _ _ _ _ _ _ us hl => match us, hl with | [_], _ => rfl) (fun (a : (List (Int × Int))) => [(dT (dP2 PyData.int PyData.int)) a]) (by intro _; rfl) PyData.str (fun (a : (List (Int × Int))) => f_show_worths a) (fun a => (a, ())) (fun _ => ⟨_, rfl, ⟨_, _, rfl, rfl⟩⟩)
    (fun cdv A outer s H E c hr hp =>
    (ts_one (ts_ret (fun a _ => a) (tm_joinL (fun h1 h2 => dev_join h1 h2) (tm_c (T := PyData.str) dev_str " " rfl) (tm_lock (T := (dL PyData.str)) (tn_of (lc_P (own := [1]) (J := DEm _ _ _) (h0 := fun t => t) (fun hi hg ht he => dem_lc (own := [("worth", 1)]) rfl sc_show_worths.nd hi (blkOk_by (N := n_show_worths) (sc := defScope s_show_worths) (by decide +kernel)) (by decide) hg ht he) (ti_seq (T := (dP2 PyData.int PyData.int)) (fun xs => xs) (tm_name (T := (dT (dP2 PyData.int PyData.int))) (de_name 0) sv0) (by intro _ _ h; exact h)) wkR (ssXn (ssV ssXX) fg0) (fun _ => (tg_name (T := (dP2 PyData.int PyData.int)) (dg_name 1 sc_show_worths.nd) (ssV (ssXV (T := (dP2 PyData.int PyData.int)))))) (fun _ => (tm_call (T := PyData.str) (fun h => dev_cf C_show_share hr (by decide) (by rfl) h) (tv_cons (tm_name (T := (dP2 PyData.int PyData.int)) (de_name 1) (svV sv0)) tv_nil) (fun (p : (Int × Int) × Unit) => p.1) (by intro _; rfl) (by intro _; rfl) (by intro _; rfl) (xe_v (lnV ln0)))) _ (wkV (wkVX wkR)) (by intro _ _ _; rfl) (by intro _ _; rfl))) (by intro _; rfl))) (ret_v (lnV ln0))))) nb (fun _ _ _ h => h.elim) ?_
  intro _; rfl
theorem ok__law_any {f : Addr} {fd : FuncData} (F : L2.Fun K "_law_any" "_law_any" s__law_any f fd) (hm : mg "_law_any" = some (.ref f)) (B : BaseG P base) (z_int : mg "int" = none) (z_max : mg "max" = none) (C__law_draw : Cal P w K mg base 1 "_law_draw" s__law_draw ["_law_pen_here", "_law_many"] P__law_draw) (C__law_share : Cal P w K mg base 1 "_law_share" s__law_share ["_law_up", "_law_down"] P__law_share) : Cal P w K mg base 2 "_law_any" s__law_any ["_law_pen_here"] P__law_any := by
  refine t_calO (k := 1) (E0 := (EnO (mP3 (dL PyData.int) PyData.int PyData.int) (EnX (EnX (EnX (EnX EnN)))))) (EN := EnF) F hm sc__law_any (fun _ _ _ _ _ _ us hl => match us, hl with | [_], _ => rfl) (fun (a : Unit) => []) (by intro _; rfl) (dP2 PyData.int PyData.int) (mP3 (dL PyData.int) PyData.int PyData.int) (fun m (a : Unit) => f_law_any m ) (fun m a => (m, ())) (fun _ _ => ⟨_, rfl, ⟨_, _, rfl, ⟨_, _, rfl, ⟨_, _, rfl, ⟨_, _, rfl, rfl⟩⟩⟩⟩⟩)
    (fun cdv A outer s H E c hr hp =>
    (ts_cons (ts_set (fun h => st_set 1 sc__law_any.nd h) (tm_callO (T := PyData.int) (fun h => dev_cf C__law_draw hr (by decide) (by rfl) (ag_s 0 h)) (tv_cons (tm_c (T := PyData.int) dev_int 8 rfl) tv_nil) so0 so0 (ssOO (TM := (mP3 (dL PyData.int) PyData.int PyData.int))) (fun (p : Int × Unit) => p.1) (by intro _; rfl) (by intro _; rfl) (by intro _; rfl) (xo_o so0 (lnO ln0))) (ssO (ssXV (T := PyData.int)))) (ts_cons (ts_set (fun h => st_set 2 sc__law_any.nd h) (tm_bin op_addD opc_addI (tm_bin op_mulD opc_mulI (tm_callO (T := PyData.int) (fun h => dev_cf C__law_draw hr (by decide) (by rfl) (ag_s 0 h)) (tv_cons (tm_powc 1000000 dev_int dev_int (by decide +kernel) (by decide +kernel)) tv_nil) so0 so0 (ssOO (TM := (mP3 (dL PyData.int) PyData.int PyData.int))) (fun (p : Int × Unit) => p.1) (by intro _; rfl) (by intro _; rfl) (by intro _; rfl) (xo_o so0 (lnO ln0))) (tr_of (tm_powc 1000000 dev_int dev_int (by decide +kernel) (by decide +kernel)))) (tr_of (tm_callO (T := PyData.int) (fun h => dev_cf C__law_draw hr (by decide) (by rfl) (ag_s 0 h)) (tv_cons (tm_powc 1000000 dev_int dev_int (by decide +kernel) (by decide +kernel)) tv_nil) so0 so0 (ssOO (TM := (mP3 (dL PyData.int) PyData.int PyData.int))) (fun (p : Int × Unit) => p.1) (by intro _; rfl) (by intro _; rfl) (by intro _; rfl) (xo_o so0 (lnO ln0))))) (ssO (ssV (ssXV (T := PyData.int))))) (ts_cons (ts_set (fun h => st_set 3 sc__law_any.nd h) (tm_ix ixd (opc_ixL (t := PyData.int)) (tm_lock (T := (dL PyData.int)) (tn_lst (T := (mL PyData.int)) (fun (p : Int × Int × Int × Int × Int × Int × Int × Int × Unit) => [p.1, p.2.1, p.2.2.1, p.2.2.2.1, p.2.2.2.2.1, p.2.2.2.2.2.1, p.2.2.2.2.2.2.1, p.2.2.2.2.2.2.2.1]) (ta_cons (tm_c (T := PyData.int) dev_int 0 rfl) (ta_cons (tm_c (T := PyData.int) dev_int 1 rfl) (ta_cons (tm_neg (tr_of (tm_c (T := PyData.int) dev_int 1 rfl))) (ta_cons (tm_bin op_subD opc_subI (tm_callO (T := PyData.int) (fun h => dev_cf C__law_draw hr (by decide) (by rfl) (ag_s 0 h)) (tv_cons (tm_c (T := PyData.int) dev_int 19 rfl) tv_nil) so0 so0 (ssOO (TM := (mP3 (dL PyData.int) PyData.int PyData.int))) (fun (p : Int × Unit) => p.1) (by intro _; rfl) (by intro _; rfl) (by intro _; rfl) (xo_o so0 (lnO ln0))) (tr_of (tm_c (T := PyData.int) dev_int 9 rfl))) (ta_cons (tm_bin op_subD opc_subI (tm_callO (T := PyData.int) (fun h => dev_cf C__law_draw hr (by decide) (by rfl) (ag_s 0 h)) (tv_cons (tm_c (T := PyData.int) dev_int 19 rfl) tv_nil) so0 so0 (ssOO (TM := (mP3 (dL PyData.int) PyData.int PyData.int))) (fun (p : Int × Unit) => p.1) (by intro _; rfl) (by intro _; rfl) (by intro _; rfl) (xo_o so0 (lnO ln0))) (tr_of (tm_c (T := PyData.int) dev_int 9 rfl))) (ta_cons (tm_bin op_subD opc_subI (tm_callO (T := PyData.int) (fun h => dev_cf C__law_draw hr (by decide) (by rfl) (ag_s 0 h)) (tv_cons (tm_c (T := PyData.int) dev_int 199 rfl) tv_nil) so0 so0 (ssOO (TM := (mP3 (dL PyData.int) PyData.int PyData.int))) (fun (p : Int × Unit) => p.1) (by intro _; rfl) (by intro _; rfl) (by intro _; rfl) (xo_o so0 (lnO ln0))) (tr_of (tm_c (T := PyData.int) dev_int 99 rfl))) (ta_cons (tm_name (T := PyData.int) (de_name 2) (svO (svV sv0))) (ta_cons (tm_bin op_subD opc_subI (tm_c (T := PyData.int) dev_int 0 rfl) (tr_of (tm_name (T := PyData.int) (de_name 2) (svO (svV sv0))))) ta_nil)))))))) (by intro _; rfl) (fun _ => Nat.le_of_ble_eq_true rfl)) (by intro _; rfl)) (tr_of (tm_name (T := PyData.int) (de_name 1) (svO sv0)))) (ssO (ssV (ssV (ssXV (T := PyData.int)))))) (ts_cons (ts_set (fun h => st_set 4 sc__law_any.nd h) (tm_ix ixd (opc_ixL (t := PyData.int)) (tm_lock (T := (dL PyData.int)) (tn_lst (T := (mL PyData.int)) (fun (p : Int × Int × Int × Int × Int × Int × Unit) => [p.1, p.2.1, p.2.2.1, p.2.2.2.1, p.2.2.2.2.1, p.2.2.2.2.2.1]) (ta_cons (tm_c (T := PyData.int) dev_int 1 rfl) (ta_cons (tm_c (T := PyData.int) dev_int 1 rfl) (ta_cons (tm_c (T := PyData.int) dev_int 2 rfl) (ta_cons (tm_c (T := PyData.int) dev_int 3 rfl) (ta_cons (tm_bin op_addD opc_addI (tm_c (T := PyData.int) dev_int 1 rfl) (tr_of (tm_callO (T := PyData.int) (fun h => dev_cf C__law_draw hr (by decide) (by rfl) (ag_s 0 h)) (tv_cons (tm_c (T := PyData.int) dev_int 12 rfl) tv_nil) so0 so0 (ssOO (TM := (mP3 (dL PyData.int) PyData.int PyData.int))) (fun (p : Int × Unit) => p.1) (by intro _; rfl) (by intro _; rfl) (by intro _; rfl) (xo_o so0 (lnO ln0))))) (ta_cons (tm_bin op_addD opc_addI (tm_c (T := PyData.int) dev_int 1 rfl) (tr_of (tm_callO (T := PyData.int) (fun h => dev_cf C__law_draw hr (by decide) (by rfl) (ag_s 0 h)) (tv_cons (tm_c (T := PyData.int) dev_int 12 rfl) tv_nil) so0 so0 (ssOO (TM := (mP3 (dL PyData.int) PyData.int PyData.int))) (fun (p : Int × Unit) => p.1) (by intro _; rfl) (by intro _; rfl) (by intro _; rfl) (xo_o so0 (lnO ln0))))) ta_nil)))))) (by intro _; rfl) (fun _ => Nat.le_of_ble_eq_true rfl)) (by intro _; rfl)) (tr_of (tm_callO (T := PyData.int) (fun h => dev_cf C__law_draw hr (by decide) (by rfl) (ag_s 0 h)) (tv_cons (tm_c (T := PyData.int) dev_int 6 rfl) tv_nil) so0 so0 (ssOO (TM := (mP3 (dL PyData.int) PyData.int PyData.int))) (fun (p : Int × Unit) => p.1) (by intro _; rfl) (by intro _; rfl) (by intro _; rfl) (xo_o so0 (lnO ln0))))) (ssO (ssV (ssV (ssV (ssXV (T := PyData.int))))))) (ts_one (ts_ret _ (tm_call (T := (dP2 PyData.int PyData.int)) (fun h => dev_cf C__law_share hr (by decide) (by rfl) h) (tv_cons (tm_name (T := PyData.int) (de_name 3) (svO (svV (svV sv0)))) (tv_cons (tm_ix ixd (opc_ixL (t := PyData.int)) (tm_lock (T := (dL PyData.int)) (tn_lst (T := (mL PyData.int)) (fun (p : Int × Int × Unit) => [p.1, p.2.1]) (ta_cons (tm_name (T := PyData.int) (de_name 4) (svO (svV (svV (svV sv0))))) (ta_cons (tm_call2 (fun h => dev_callB (call_max2D rfl) (by rfl) z_max boot_max' h) cd_max2 (tm_c (T := PyData.int) dev_int 1 rfl) (tr_of (tm_name (T := PyData.int) (de_name 2) (svO (svV sv0))))) ta_nil)) (by intro _; rfl) (fun _ => Nat.le_of_ble_eq_true rfl)) (by intro _; rfl)) (tr_of (tm_call1 (fun h => dev_callT call_intCD (by rfl) z_int boot_int' h) cd_intB (tr_of (tm_cmp (op_eqD hr B) opc_eqI (tm_callO (T := PyData.int) (fun h => dev_cf C__law_draw hr (by decide) (by rfl) (ag_s 0 h)) (tv_cons (tm_c (T := PyData.int) dev_int 16 rfl) tv_nil) so0 so0 (ssOO (TM := (mP3 (dL PyData.int) PyData.int PyData.int))) (fun (p : Int × Unit) => p.1) (by intro _; rfl) (by intro _; rfl) (by intro _; rfl) (xo_o so0 (lnO ln0))) (tr_of (tm_c (T := PyData.int) dev_int 0 rfl)) (nobehind _ (by decide) (by decide))))))) tv_nil)) (fun (p : Int × Int × Unit) => (p.1, p.2.1)) (by intro _; rfl) (by intro _; rfl) (by intro _; rfl) (xe_o so0 (lnO ln0))) (ret_o so0 (lnO ln0))))))))) nb (fun _ _ _ h => h.elim) ?_
  intro _ _; rfl
theorem ok_law {f : Addr} {fd : FuncData} (F : L2.Fun K "law" "law" s_law f fd) (hm : mg "law" = some (.ref f)) (B : BaseG P base) (z_isinstance : mg "isinstance" = none) (z_range : mg "range" = none) (z_repr : mg "repr" = none) (z_str : mg "str" = none) (z_tuple : mg "tuple" = none) (C__law_pen : Cal P w K mg base 1 "_law_pen" s__law_pen ["_law_script"] P__law_pen) (C__law_draw : Cal P w K mg base 1 "_law_draw" s__law_draw ["_law_pen_here", "_law_many"] P__law_draw) (C__law_any : Cal P w K mg base 2 "_law_any" s__law_any ["_law_pen_here"] P__law_any) (C_show_share : Cal P w K mg base 1 "show_share" s_show_share ["share"] P_show_share) (C__law_writ : Cal P w K mg base 1 "_law_writ" s__law_writ ["_law_share_so"] P__law_writ) (C_show_worths : Cal P w K mg base 2 "show_worths" s_show_worths ["worths"] P_show_worths) : Cal P w K mg base 3 "law" s_law ["_law_script"] P_law := by
  refine t_calV (k := 2) (E0 := (EnV (dL PyData.int) (EnX (EnX (EnX (EnX (EnX (EnX (EnX (EnX EnN)))))))))) (EN := EnF) F hm sc_law (fun _ _ _ _ _ _ us hl => match us, hl with | [_], _ => rfl) (fun (a : (List Int)) => [(dL PyData.int) a]) (by intro _; rfl) PyData.bool (fun (a : (List Int)) => f_law a) (fun a => (a, ())) (fun _ => ⟨_, rfl, ⟨_, _, rfl, ⟨_, _, rfl, ⟨_, _, rfl, ⟨_, _, rfl, ⟨_, _, rfl, ⟨_, _, rfl, ⟨_, _, rfl, ⟨_, _, rfl, rfl⟩⟩⟩⟩⟩⟩⟩⟩⟩)
    (fun cdv A outer s H E c hr hp =>
    (ts_cons (ts_setM (fun h => st_setM 1 sc_law.nd (Nat.le_trans hp (by decide)) h) (tn_call (T := (mP3 (dL PyData.int) PyData.int PyData.int)) (fun h => dem_cf C__law_pen hr (by decide) (by rfl) h) (tv_cons (tm_name (T := (dL PyData.int)) (de_name 0) sv0) tv_nil) (fun (p : (List Int) × Unit) => p.1) (by intro _; rfl) (by intro _; rfl) (xe_v (lnV ln0))) (ssV (ssXO (TM := (mP3 (dL PyData.int) PyData.int PyData.int))))) (ts_cons (ts_forF rfl (ti_rng1 (fun h => di_rng1 (by rfl) z_range h) (tr_of (tm_c (T := PyData.int) dev_int 6 rfl))) (wkVX wkR) (tg_name (T := PyData.int) (dg_name 2 sc_law.nd) (ssX (ssO (ssXV (T := PyData.int))))) (ts_wk (ts_cons (ts_set (fun h => st_set 3 sc_law.nd h) (tm_call1 (fun h => dev_callT call_tupleD (by rfl) z_tuple boot_tuple' h) (cd_tupL (t := (dP2 PyData.int PyData.int))) (tr_of (tm_lock (T := (dL (dP2 PyData.int PyData.int))) (tn_of (lc_S (own := [8]) (J := DEm _ _ _) (h0 := fun t => t) (fun hi hg ht he => dem_lc (own := [("_law_k", 8)]) rfl sc_law.nd hi (blkOk_by (N := n_law) (sc := defScope s_law) (by decide +kernel)) (by decide) hg ht he) (ti_rng1 (fun h => di_rng1 (by rfl) z_range h) (tr_of (tm_bin op_addD opc_addI (tm_c (T := PyData.int) dev_int 1 rfl) (tr_of (tm_callO (T := PyData.int) (fun h => dev_cf C__law_draw hr (by decide) (by rfl) (ag_s 1 h)) (tv_cons (tm_c (T := PyData.int) dev_int 16 rfl) tv_nil) (soX so0) (soX so0) (ssX (ssOO (TM := (mP3 (dL PyData.int) PyData.int PyData.int)))) (fun (p : Int × Unit) => p.1) (by intro _; rfl) (by intro _; rfl) (by intro _; rfl) (xo_v (lnX ln0))))))) wkR (ssXn (ssX (ssO (ssV (ssX (ssX (ssX (ssX (ssX ssXX)))))))) fg0) (fun _ => (tg_name (T := PyData.int) (dg_name 8 sc_law.nd) (ssX (ssO (ssV (ssX (ssX (ssX (ssX (ssX (ssXV (T := PyData.int)))))))))))) (fun _ => (tm_callO (T := (dP2 PyData.int PyData.int)) (fun h => dev_cf C__law_any hr (by decide) (by rfl) (ag_s 1 h)) tv_nil (soX so0) (soX so0) (ssX (ssOO (TM := (mP3 (dL PyData.int) PyData.int PyData.int)))) (fun _ => ()) (by intro _; rfl) (by intro _; rfl) (by intro _; rfl) (xo_v (lnX ln0)))) (wkX (wkO (wkV (wkX (wkX (wkX (wkX (wkX (wkVX wkR))))))))))) (by intro _; rfl)))) (ssX (ssO (ssV (ssXV (T := (dT (dP2 PyData.int PyData.int)))))))) (ts_cons (ts_set (fun h => st_set 4 sc_law.nd h) (tm_call1 (fun h => dev_callB (call_reprD hr B) (by rfl) z_repr boot_repr' h) (cd_repr (T := (dT (dP2 PyData.int PyData.int)))) (tr_of (tm_name (T := (dT (dP2 PyData.int PyData.int))) (de_name 3) (svX (svO (svV sv0)))))) (ssX (ssO (ssV (ssV (ssXV (T := PyData.str))))))) (ts_cons (ts_forF rfl (ti_seq (T := (dP2 PyData.int PyData.int)) (fun xs => xs) (tm_name (T := (dT (dP2 PyData.int PyData.int))) (de_name 3) (svX (svO (svV sv0)))) (by intro _ _ h; exact h)) (wkX (wkO (wkVX wkR))) (tg_name (T := (dP2 PyData.int PyData.int)) (dg_name 5 sc_law.nd) (ssX (ssO (ssX (ssV (ssV (ssXV (T := (dP2 PyData.int PyData.int))))))))) (ts_wk (ts_cons (ts_set (fun h => st_set 7 sc_law.nd h) (tm_call (T := PyData.str) (fun h => dev_cf C_show_share hr (by decide) (by rfl) h) (tv_cons (tm_name (T := (dP2 PyData.int PyData.int)) (de_name 5) (svX (svO (svX (svV (svV sv0)))))) tv_nil) (fun (p : (Int × Int) × Unit) => p.1) (by intro _; rfl) (by intro _; rfl) (by intro _; rfl) (xe_v (lnX ln0))) (ssX (ssO (ssX (ssV (ssV (ssV (ssX (ssXV (T := PyData.str)))))))))) (ts_one (ts_if (tb_joinP (tb_w (tw_or (tb_not (tb_tru tru_bool (tr_of (tm_isi (fun h => dev_isi (by rfl) z_isinstance (by rfl) z_str boot_str' kit_str h) (fun a => isiD "str" (PyData.str a)) (by intro _; rfl) (tr_of (tm_name (T := PyData.str) (de_name 7) (svX (svO (svX (svV (svV (svV (svX sv0))))))))))))) (tw_or (tb_cmp op_neSD opc_neS (tm_name (T := PyData.str) (de_name 7) (svX (svO (svX (svV (svV (svV (svX sv0)))))))) (tr_of (tm_call (T := PyData.str) (fun h => dev_cf C__law_writ hr (by decide) (by rfl) h) (tv_cons (tm_name (T := (dP2 PyData.int PyData.int)) (de_name 5) (svX (svO (svX (svV (svV sv0)))))) tv_nil) (fun (p : (Int × Int) × Unit) => p.1) (by intro _; rfl) (by intro _; rfl) (by intro _; rfl) (xe_v (lnX ln0)))) (nobehind _ (by decide) (by decide))) (tw_or1 (tb_cmp op_neSD opc_neS (tm_callK (T := PyData.str) (fun h => dev_cK (ks := ["share"]) [0] C_show_share hr (by decide) (by rfl) (fun _ _ _ _ _ _ ws hl => match ws, hl with | [_], _ => rfl) h) (tk_cons (tm_name (T := (dP2 PyData.int PyData.int)) (de_name 5) (svX (svO (svX (svV (svV sv0)))))) tk_nil) (fun (p : (Int × Int) × Unit) => p.1) (by intro _; rfl) (by intro _; rfl) (by intro _; rfl) (by intro _; rfl) (xe_v (lnX ln0))) (tr_of (tm_name (T := PyData.str) (de_name 7) (svX (svO (svX (svV (svV (svV (svX sv0))))))))) (nobehind _ (by decide) (by decide))))))) (by intro _ _ _; rfl)) (ts_one (ts_ret (fun a _ => a) (tm_c (T := PyData.bool) dev_bl false rfl) (ret_v (lnX ln0)))) ts_nil))) (wkX (wkO (wkX (wkV (wkV (wkVX (wkX (wkVX wkR)))))))))) (ts_cons (ts_set (fun h => st_set 6 sc_law.nd h) (tm_joinL (fun h1 h2 => dev_join h1 h2) (tm_c (T := PyData.str) dev_str " " rfl) (tm_lock (T := (dL PyData.str)) (tn_of (lc_P (own := [5]) (J := DEm _ _ _) (h0 := fun t => t) (fun hi hg ht he => dem_lc (own := [("_law_one", 5)]) rfl sc_law.nd hi (blkOk_by (N := n_law) (sc := defScope s_law) (by decide +kernel)) (by decide) hg ht he) (ti_seq (T := (dP2 PyData.int PyData.int)) (fun xs => xs) (tm_name (T := (dT (dP2 PyData.int PyData.int))) (de_name 3) (svX (svO (svX sv0)))) (by intro _ _ h; exact h)) wkR (ssXn (ssX (ssO (ssX (ssV (ssV ssXX))))) fg0) (fun _ => (tg_name (T := (dP2 PyData.int PyData.int)) (dg_name 5 sc_law.nd) (ssX (ssO (ssX (ssV (ssV (ssXV (T := (dP2 PyData.int PyData.int)))))))))) (fun _ => (tm_call (T := PyData.str) (fun h => dev_cf C__law_writ hr (by decide) (by rfl) h) (tv_cons (tm_name (T := (dP2 PyData.int PyData.int)) (de_name 5) (svX (svO (svX (svV (svV sv0)))))) tv_nil) (fun (p : (Int × Int) × Unit) => p.1) (by intro _; rfl) (by intro _; rfl) (by intro _; rfl) (xe_v (lnX ln0)))) _ (wkX (wkO (wkX (wkV (wkV (wkVX wkR)))))) (by intro _ _ _; rfl) (by intro _ _; rfl))) (by intro _; rfl))) (ssX (ssO (ssX (ssV (ssV (ssX (ssXV (T := PyData.str))))))))) (ts_one (ts_if (tb_joinP (tb_w (tw_or (tb_cmp op_neSD opc_neS (tm_call (T := PyData.str) (fun h => dev_cf C_show_worths hr (by decide) (by rfl) h) (tv_cons (tm_name (T := (dT (dP2 PyData.int PyData.int))) (de_name 3) (svX (svO (svX sv0)))) tv_nil) (fun (p : (List (Int × Int)) × Unit) => p.1) (by intro _; rfl) (by intro _; rfl) (by intro _; rfl) (xe_v (lnX ln0))) (tr_of (tm_name (T := PyData.str) (de_name 6) (svX (svO (svX (svV (svV (svX sv0)))))))) (nobehind _ (by decide) (by decide))) (tw_or (tb_cmp op_neSD opc_neS (tm_callK (T := PyData.str) (fun h => dev_cK (ks := ["worths"]) [0] C_show_worths hr (by decide) (by rfl) (fun _ _ _ _ _ _ ws hl => match ws, hl with | [_], _ => rfl) h) (tk_cons (tm_name (T := (dT (dP2 PyData.int PyData.int))) (de_name 3) (svX (svO (svX sv0)))) tk_nil) (fun (p : (List (Int × Int)) × Unit) => p.1) (by intro _; rfl) (by intro _; rfl) (by intro _; rfl) (by intro _; rfl) (xe_v (lnX ln0))) (tr_of (tm_name (T := PyData.str) (de_name 6) (svX (svO (svX (svV (svV (svX sv0)))))))) (nobehind _ (by decide) (by decide))) (tw_or1 (tb_cmp op_neSD opc_neS (tm_call1 (fun h => dev_callB (call_reprD hr B) (by rfl) z_repr boot_repr' h) (cd_repr (T := (dT (dP2 PyData.int PyData.int)))) (tr_of (tm_name (T := (dT (dP2 PyData.int PyData.int))) (de_name 3) (svX (svO (svX sv0)))))) (tr_of (tm_name (T := PyData.str) (de_name 4) (svX (svO (svX (svV sv0)))))) (nobehind _ (by decide) (by decide))))))) (by intro _ _ _; rfl)) (ts_one (ts_ret (fun a _ => a) (tm_c (T := PyData.bool) dev_bl false rfl) (ret_v (lnX ln0)))) ts_nil)))))) (wkX (wkO (wkX (wkVX (wkVX (wkX (wkVX wkR))))))))) (ts_one (ts_ret (fun a _ => a) (tm_cmp (op_eqD hr B) (opc_eq (T1 := (dL PyData.str)) (T2 := (dL PyData.str))) (tm_lock (T := (dL PyData.str)) (tn_lst (T := (mL PyData.str)) (fun (p : Str × Str × Str × Unit) => [p.1, p.2.1, p.2.2.1]) (ta_cons (tm_call (T := PyData.str) (fun h => dev_cf C_show_share hr (by decide) (by rfl) h) (tv_cons (tm_tup (T := (dP2 PyData.int PyData.int)) (fun (p : Int × Int × Unit) => (p.1, p.2.1)) (ta_cons (tm_c (T := PyData.int) dev_int 0 rfl) (ta_cons (tm_c (T := PyData.int) dev_int 1 rfl) ta_nil)) (by intro _; rfl) (fun _ => Nat.le_of_ble_eq_true rfl)) tv_nil) (fun (p : (Int × Int) × Unit) => p.1) (by intro _; rfl) (by intro _; rfl) (by intro _; rfl) (xe_v (lnX ln0))) (ta_cons (tm_call (T := PyData.str) (fun h => dev_cf C_show_share hr (by decide) (by rfl) h) (tv_cons (tm_tup (T := (dP2 PyData.int PyData.int)) (fun (p : Int × Int × Unit) => (p.1, p.2.1)) (ta_cons (tm_neg (tr_of (tm_c (T := PyData.int) dev_int 1 rfl))) (ta_cons (tm_c (T := PyData.int) dev_int 2 rfl) ta_nil)) (by intro _; rfl) (fun _ => Nat.le_of_ble_eq_true rfl)) tv_nil) (fun (p : (Int × Int) × Unit) => p.1) (by intro _; rfl) (by intro _; rfl) (by intro _; rfl) (xe_v (lnX ln0))) (ta_cons (tm_call (T := PyData.str) (fun h => dev_cf C_show_share hr (by decide) (by rfl) h) (tv_cons (tm_tup (T := (dP2 PyData.int PyData.int)) (fun (p : Int × Int × Unit) => (p.1, p.2.1)) (ta_cons (tm_neg (tr_of (tm_c (T := PyData.int) dev_int 7 rfl))) (ta_cons (tm_c (T := PyData.int) dev_int 1 rfl) ta_nil)) (by intro _; rfl) (fun _ => Nat.le_of_ble_eq_true rfl)) tv_nil) (fun (p : (Int × Int) × Unit) => p.1) (by intro _; rfl) (by intro _; rfl) (by intro _; rfl) (xe_v (lnX ln0))) ta_nil))) (by intro _; rfl) (fun _ => Nat.le_of_ble_eq_true rfl)) (by intro _; rfl)) (tr_of (tm_lock (T := (dL PyData.str)) (tn_lst (T := (mL PyData.str)) (fun (p : Str × Str × Str × Unit) => [p.1, p.2.1, p.2.2.1]) (ta_cons (tm_c (T := PyData.str) dev_str "0" rfl) (ta_cons (tm_c (T := PyData.str) dev_str "-1/2" rfl) (ta_cons (tm_c (T := PyData.str) dev_str "-7" rfl) ta_nil))) (by intro _; rfl) (fun _ => Nat.le_of_ble_eq_true rfl)) (by intro _; rfl))) (nobehind _ (by decide) (by decide))) (ret_v (lnX ln0))))))) nb (fun _ _ _ h => h.elim) ?_
  intro _; rfl
end
end LW
namespace LW
open PySem PySem.Spec PyProof.Rows L2 DL TL
/-! the pen -/
def PenOk (n : Nat) (p : List Int × Int × Int) : Prop := 0 ≤ p.2.1 ∧ p.2.1 ≤ n ∧ 0 ≤ p.2.2 ∧ p.1.length ≤ 63
theorem PenOk.mono {n m : Nat} {p : List Int × Int × Int} (h : PenOk n p) (hm : n ≤ m) : PenOk m p := ⟨h.1, by have := h.2.1; omega, h.2.2⟩
theorem draw_ok {p : List Int × Int × Int} {n : Nat} {m : Int} (hp : PenOk n p) (hn : n ≤ 100000) (h0 : 0 < m) (h1 : m < 18446744073709551616) : Ok (f_law_draw p m) fun r => 0 ≤ r.1 ∧ r.1 < m ∧ PenOk (n + 1) r.2 := by
  obtain ⟨cells, a, g⟩ := p
  obtain ⟨ha, ha2, hg, hcl⟩ := hp
  dsimp only at ha ha2 hg hcl
  have hm3 : m ≠ 0 := by omega
  have hm4 : m.natAbs.log2 < 9000 := log_64 (by omega)
  obtain ⟨haa0, haa⟩ := small_mul (B := 100000) (C := 100000) ha (by omega) ha (by omega)
  have e7 : 60029 * a * a = 60029 * (a * a) := Int.mul_assoc ..
  have bA : ∀ c : Int, (c.fmod 2147483497 + 60029 * a * a + 20011 * a + 43).natAbs < 18446744073709551616 := fun c => by
    have := fmod_rng c (m := 2147483497) (by decide)
    omega
  have bB : ∀ c : Int, (c.fmod 2147483629 + 23 * a + 11).natAbs < 18446744073709551616 := fun c => by
    have h1 := fmod_rng c (m := 2147483629) (by decide)
    omega
  have m3 : MulFit (60029 * a) a := mulOk_r (by omega)
  have m6 : ∀ x c : Int, MulFit x (c.fmod 80021 + 7) := fun x c => mulOk_r (by have := fmod_rng c (m := 80021) (by decide); omega)
  have fin : ∀ (x g' : Int), 0 ≤ g' → ∀ a', 0 ≤ a' → a' ≤ (n : Int) + 1 → (0 ≤ x.fmod m ∧ x.fmod m < m ∧ PenOk (n + 1) (cells, a', g')) := fun x g' hg' a' h1 h2 => ⟨(fmod_rng x h0).1, (fmod_rng x h0).2, h1, by simpa using h2, hg', hcl⟩
  unfold f_law_draw
  refine ok_ifb (fun _ => ?_) fun _ => ?_
  · exact ok_gd hm3 (ok_lt fun d hd => ok_gd ⟨hm3, hm4⟩ (ok_ok (by subst hd; exact fin g _ (fdiv_nn hg h0) a ha (by omega))))
  · refine ok_lt fun cell hcell => ?_
    refine ok_bd (P := fun s => s.1 = (cells, a + 1, g) ∧ s.2.1 = m ∧ s.2.2.1 = a) ?_ ?_
    · refine ok_ifb (fun hc => ?_) fun _ => ok_ok ⟨rfl, rfl, rfl⟩
      have hc := of_decide_eq_true hc
      refine ok_gd (by dsimp only at hc ⊢; omega) ?_
      have hr := fmod_rng a (m := (cells.length : Int)) (by dsimp only at hc; omega)
      exact ok_ix (P := fun _ => True) hr.1 hr.2 (fun _ _ => trivial) fun c _ => ok_ok ⟨rfl, rfl, rfl⟩
    · rintro ⟨p1, m1, a1, c, _⟩ ⟨e1, e2, e3⟩
      dsimp only at e1 e2 e3
      subst e1 e2 e3
      dsimp only
      refine ok_ifb (fun _ => ?_) fun _ => ?_
      · exact ok_gd ⟨hm3, hm4⟩ (ok_gd hm3 (ok_ok (fin _ _ (fdiv_nn (by omega) h0) _ (by omega) (by omega))))
      · refine ok_gd m3 (ok_lt fun s0 hs0 => ok_gd (by rw [hs0]; exact bA _) (ok_lt fun s1 hs1 => ok_gd (by rw [hs1]; exact bB _) (ok_gd (m6 _ _) (ok_lt fun s2 _ => ok_gd hm3 (ok_ok (fin _ _ hg _ (by omega) (by omega)))))))
theorem pen_new {ns : List Int} (hl : ns.length ≤ 63) : PenOk 0 (cut ns none (some 63), 0, 0) := by
  refine ⟨by simp, by simp, by simp, ?_⟩
  dsimp only
  unfold cut
  rw [List.length_take, List.length_drop]
  omega
theorem law_share_eq (u d : Int) (hd : d ≠ 0) (hd2 : d.natAbs < 2 ^ 8000) : f_law_share u d = .ok (shr (Rat.divInt u d)) := by
  unfold f_law_share
  obtain ⟨h1, h2, h3⟩ := share_num u d hd
  have hl : (if d < 0 then 0 - (Int.gcd u d : Int) else (Int.gcd u d : Int)).natAbs.log2 < 9000 := by
    refine log_lt 8000 ?_ (by decide) (by decide)
    refine Nat.lt_of_le_of_lt ?_ hd2
    have := Int.gcd_le_natAbs_right (a := u) hd
    split <;> omega
  obtain ⟨z, hz⟩ := gcd_loop4 u d (fun y => !decide (y = 0)) (fun y _ => by simp) (fun (s4 : Int × Int × Int × Int × Unit) => if (!decide (s4.2.2.2.1 = (0 : Int))) = true then gd (s4.2.2.2.1 ≠ 0) (.ok (.nx (s4.1, s4.2.1, s4.2.2.2.1, (s4.2.2.1.fmod s4.2.2.2.1), ()))) else .ok (.rt (s4.1, s4.2.1, s4.2.2.1, s4.2.2.2.1, ()))) (fun x y hx hy => by
    dsimp only
    by_cases e : y = 0
    · simp [e]
    · simp [e, gd_ok]) u.natAbs d.natAbs (by omega) (by omega)
  rw [hz, bd_ok]
  dsimp only
  rw [show (Int.gcd (u.natAbs : Int) (d.natAbs : Int) : Int) = (Int.gcd u d : Int) by simp [Int.gcd]]
  by_cases h0 : d < 0
  · rw [if_pos h0] at h1 h2 h3 hl
    rw [if_pos (decide_eq_true h0), lt_eq, bd_ok]
    dsimp only
    rw [gd_ok ⟨h3, hl⟩, gd_ok ⟨h3, hl⟩, h1, h2]
    rfl
  · rw [if_neg h0] at h1 h2 h3 hl
    rw [if_neg (by simpa using h0), bd_ok]
    dsimp only
    rw [gd_ok ⟨h3, hl⟩, gd_ok ⟨h3, hl⟩, h1, h2]
    rfl
theorem lt8000 {x : Nat} (h : x < 10 ^ 60) : x < 2 ^ 8000 := Nat.lt_of_lt_of_le h (by decide +kernel)
def SmallQ (q : Rat) : Prop := q.num.natAbs ≤ 10000000000000 ∧ q.den ≤ 10000000000000
theorem any_ok {p : List Int × Int × Int} {n : Nat} (hp : PenOk n p) (hn : n ≤ 50000) : Ok (f_law_any p) fun r => ∃ q : Rat, r.1 = shr q ∧ SmallQ q ∧ PenOk (n + 12) r.2 := by
  unfold f_law_any
  refine ok_bd (draw_ok hp (by omega) (by decide) (by decide)) fun r1 ⟨a1, b1, p1⟩ => ?_
  refine ok_bd (draw_ok p1 (by omega) (by decide) (by decide)) fun r2 ⟨a2, b2, p2⟩ => ok_gd (mulOk_r (by decide)) ?_
  refine ok_bd (draw_ok p2 (by omega) (by decide) (by decide)) fun r3 ⟨a3, b3, p3⟩ => ok_lt fun far hf => ?_
  refine ok_bd (draw_ok p3 (by omega) (by decide) (by decide)) fun r4 ⟨a4, b4, p4⟩ => ?_
  refine ok_bd (draw_ok p4 (by omega) (by decide) (by decide)) fun r5 ⟨a5, b5, p5⟩ => ?_
  refine ok_bd (draw_ok p5 (by omega) (by decide) (by decide)) fun r6 ⟨a6, b6, p6⟩ => ?_
  refine ok_ix (P := fun x => x.natAbs ≤ 10000000000000) a1 (by simpa using b1) (by simp only [List.forall_mem_cons]; refine ⟨?_, ?_, ?_, ?_, ?_, ?_, ?_, ?_, fun _ h => absurd h List.not_mem_nil⟩ <;> omega) fun up hup => ?_
  refine ok_bd (draw_ok p6 (by omega) (by decide) (by decide)) fun r7 ⟨a7, b7, p7⟩ => ?_
  refine ok_bd (draw_ok p7 (by omega) (by decide) (by decide)) fun r8 ⟨a8, b8, p8⟩ => ?_
  refine ok_bd (draw_ok p8 (by omega) (by decide) (by decide)) fun r9 ⟨a9, b9, p9⟩ => ?_
  refine ok_ix (P := fun x => 0 < x ∧ x ≤ 10000000000000) a9 (by simpa using b9) (by simp only [List.forall_mem_cons]; refine ⟨?_, ?_, ?_, ?_, ?_, ?_, fun _ h => absurd h List.not_mem_nil⟩ <;> omega) fun dn hdn => ?_
  refine ok_bd (draw_ok p9 (by omega) (by decide) (by decide)) fun r10 ⟨a10, b10, p10⟩ => ?_
  refine ok_ix (P := fun x => 0 < x ∧ x ≤ 10000000000000) (by split <;> decide) (by split <;> simp) (by simp only [List.forall_mem_cons]; refine ⟨?_, ?_, fun _ h => absurd h List.not_mem_nil⟩ <;> omega) fun dd hdd => ?_
  refine ok_bde (law_share_eq up dd (by omega) (lt8000 (by omega))) (ok_ok ⟨_, rfl, ?_, p10.mono (by omega)⟩)
  obtain ⟨s1, s2⟩ := share_le up dd (by omega)
  exact ⟨by omega, by omega⟩
theorem SmallQ.sz44 {q : Rat} (h : SmallQ q) : Sz 44 q := ⟨Nat.lt_of_le_of_lt h.1 (by decide +kernel), Nat.lt_of_le_of_lt h.2 (by decide +kernel)⟩
theorem SmallQ.sz {q : Rat} (h : SmallQ q) : Sz 50 q := h.sz44.mono (by omega)
/-! what is written -/
def wrS (p : Int × Int) : Str := if p.2 = 1 then strI p.1 else strI p.1 ++ ("/" : Str) ++ strI p.2
theorem str_empty_app (x : Str) : Str.empty ++ x = x := by
  cases x with
  | mk c => show (⟨#[] ++ c⟩ : Str) = ⟨c⟩; rw [Array.empty_append]
theorem strI_len {i : Int} (h : i.natAbs < 10 ^ 20) : (strI i).length ≤ 21 := by
  unfold strI
  rw [PySem.ofString_length]
  exact int_text_length_le10 (k := 20) (by decide) h
theorem str_len (x y : Str) : (x ++ y).length = x.length + y.length := by
  show (x.cps ++ y.cps).size = x.cps.size + y.cps.size
  exact Array.size_append
theorem slash_len : ("/" : Str).length = 1 := by decide +kernel
theorem blank_len : (" " : Str).length = 1 := by decide +kernel
theorem log_1920 {i : Int} (h : i.natAbs < 10 ^ 20) : i.natAbs.log2 < 1920 := by
  by_cases z : i.natAbs = 0
  · rw [z]; decide
  · have := (Nat.log2_lt (k := 70) z).mpr (Nat.lt_of_lt_of_le h (by decide)); omega
theorem writ_eq {a b : Int} (ha : a.natAbs < 10 ^ 20) (hb : b.natAbs < 10 ^ 20) : f_law_writ (a, b) = .ok (wrS (a, b)) := by
  unfold f_law_writ wrS
  have h1 := strI_len ha
  have h2 := strI_len hb
  have e : sizeLine = 16777216 := sizeLine_eq
  dsimp only
  by_cases h : b = 1
  · rw [decide_eq_true h, if_tt, if_pos h, gd_ok (log_1920 ha)]
  · rw [decide_eq_false h, if_ff, if_neg h, gd_ok (log_1920 ha), gd_ok (by rw [slash_len]; omega), gd_ok (log_1920 hb), gd_ok (by rw [str_len, slash_len]; omega)]
theorem show_eq {a b : Int} (ha : a.natAbs < 10 ^ 20) (hb : b.natAbs < 10 ^ 20) : f_show_share (a, b) = .ok (wrS (a, b)) := by
  unfold f_show_share wrS
  have h1 := strI_len ha
  have h2 := strI_len hb
  have e : sizeLine = 16777216 := sizeLine_eq
  dsimp only
  rw [str_empty_app]
  by_cases h : b = 1
  · rw [decide_eq_true h, if_tt, if_pos h, gd_ok (log_1920 ha), bd_ok]
  · rw [decide_eq_false h, if_ff, if_neg h, gd_ok (log_1920 ha), gd_ok (by omega), gd_ok (by rw [str_len, slash_len]; omega), gd_ok (log_1920 hb), gd_ok (by rw [str_len, str_len, slash_len]; omega), bd_ok]
theorem wr_len {a b : Int} (ha : a.natAbs < 10 ^ 20) (hb : b.natAbs < 10 ^ 20) : (wrS (a, b)).length ≤ 50 := by
  have h1 := strI_len ha
  have h2 := strI_len hb
  unfold wrS
  dsimp only
  split
  · omega
  · rw [str_len, str_len, slash_len]; omega
theorem sum_len {ys : List Str} (h : ∀ y ∈ ys, y.length ≤ 50) : (ys.map (·.length)).sum ≤ 50 * ys.length := by
  induction ys with
  | nil => exact Nat.le_refl _
  | cons y ys ih =>
    rw [List.map_cons, List.sum_cons, List.length_cons]
    have := h y List.mem_cons_self
    have := ih fun z hz => h z (List.mem_cons_of_mem _ hz)
    omega
theorem SmallQ.t {q : Rat} (h : SmallQ q) : (shr q).1.natAbs < 10 ^ 20 ∧ (shr q).2.natAbs < 10 ^ 20 := ⟨Nat.lt_of_le_of_lt h.1 (by decide), Nat.lt_of_le_of_lt (show (q.den : Int).natAbs ≤ _ from h.2) (by decide)⟩
theorem worths_eq {qs : List Rat} (h : ∀ q ∈ qs, SmallQ q) (hl : qs.length ≤ 100) : f_show_worths (qs.map shr) = .ok (Txt.join (" " : Str) (qs.map fun q => wrS (shr q))) := by
  unfold f_show_worths
  rw [ln_eq (by rw [List.length_map]; omega), mapP_map, mapP_eq (fun (q : Rat) => wrS (shr q)) (fun q hq => by
    have := (h q hq).t
    rw [show f_show_share (shr q) = .ok (wrS (shr q)) from show_eq this.1 this.2, bd_ok])]
  have hs := sum_len (ys := qs.map fun q => wrS (shr q)) (fun y hy => by
    obtain ⟨q, hq, rfl⟩ := List.mem_map.mp hy
    have := (h q hq).t
    exact wr_len this.1 this.2)
  rw [List.length_map] at hs
  rw [gd_ok (by rw [List.length_map, blank_len]; omega)]
theorem c_zero : wrS ((0 : Int), (1 : Int)) = ("0" : Str) := by decide +kernel
theorem c_half : wrS ((-1 : Int), (2 : Int)) = ("-1/2" : Str) := by decide +kernel
theorem c_seven : wrS ((-7 : Int), (1 : Int)) = ("-7" : Str) := by decide +kernel
theorem law_ok (ns : List Int) (hl : ns.length ≤ 63) : f_law ns = .ok true := by
  refine ok_eq ?_
  unfold f_law f_law_pen
  rw [bd_ok]
  refine ok_rg (by decide) ?_
  refine ok_bd (ok_forFr (fun r s => ∃ n, PenOk n s.1 ∧ n + 300 * r.length ≤ 5000) ⟨0, pen_new hl, by rw [rg_len]; decide⟩ ?_) ?_
  · rintro x r ⟨pn, _⟩ ⟨n, hp, hn⟩
    rw [List.length_cons] at hn
    dsimp only at hp ⊢
    refine ok_bd (draw_ok hp (by omega) (by decide) (by decide)) fun r1 ⟨a1, b1, p1⟩ => ?_
    refine ok_rg ⟨by omega, by omega, by omega, by omega⟩ (ok_ln (by rw [rg_len]; omega) ?_)
    refine ok_bx (ok_mapS (Q := fun y => ∃ q : Rat, y = shr q ∧ SmallQ q) (fun r s => ∃ m, PenOk m s.1 ∧ m + 12 * r.length ≤ n + 250) ⟨_, p1, by rw [rg_len]; omega⟩ ?_) ?_
    · rintro x r ⟨pn, c, _⟩ ⟨m, hm1, hm2⟩
      dsimp only at hm1 ⊢
      rw [List.length_cons] at hm2
      exact ok_bd (any_ok hm1 (by omega)) fun r3 ⟨q3, f3, hq3, p3⟩ => ok_ok ⟨⟨q3, f3, hq3⟩, _, p3, by omega⟩
    · rintro ⟨ys, pn2, c, _⟩ ⟨h1, h2, m, hm1, hm2⟩
      dsimp only at h1 h2 hm1 ⊢
      obtain ⟨qs, f, hq⟩ := lift_list h2
      subst f
      rw [List.length_map, rg_len] at h1
      rw [List.length_nil] at hm2
      have hql : qs.length ≤ 16 := by omega
      have repW : RepOk ((dT (dP2 PyData.int PyData.int)) (qs.map shr)) := (nb_row (N := 16) (n := 44) (p := 0) (fun q hq' => (hq q hq').sz44) (by decide) hql).rep (by decide) (by decide)
      refine ok_gd repW (ok_lt fun kept hk => ?_)
      refine ok_bd (ok_forF (fun z => z = (pn2, qs.map shr, kept, ())) rfl ?_) ?_
      · intro y hy z hz
        subst hz
        obtain ⟨q, hq', rfl⟩ := List.mem_map.mp hy
        have ht := (hq q hq').t
        have S := show_eq ht.1 ht.2
        have Wr := writ_eq ht.1 ht.2
        dsimp only
        have S' : f_show_share (shr q) = .ok (wrS (shr q)) := S
        have W' : f_law_writ (shr q) = .ok (wrS (shr q)) := Wr
        rw [S', bd_ok, show (!(isiD "str" (PyData.str (wrS (shr q))))) = false from rfl, if_ff, W', bd_ok, nif_eq rfl, bd_ok, okn rfl, bd_ok, if_ff]
        exact ok_ok ⟨_, rfl, rfl⟩
      · rintro _ ⟨z, rfl, rfl⟩
        rw [flm_nx]
        dsimp only
        rw [ln_eq (by rw [List.length_map]; omega), mapP_map, mapP_eq (fun (q : Rat) => wrS (shr q)) (fun q hq' => by
          have ht := (hq q hq').t
          rw [show f_law_writ (shr q) = .ok (wrS (shr q)) from writ_eq ht.1 ht.2, bd_ok])]
        have hs := sum_len (ys := qs.map fun q => wrS (shr q)) (fun y hy => by
          obtain ⟨q, hq', rfl⟩ := List.mem_map.mp hy
          have ht := (hq q hq').t
          exact wr_len ht.1 ht.2)
        rw [List.length_map] at hs
        refine ok_gd (by rw [List.length_map, blank_len]; omega) (ok_lt fun due hd => ?_)
        have We := worths_eq hq (by omega)
        rw [We, bd_ok, nif_eq hd.symm, bd_ok, nif_eq hd.symm, gd_ok repW, okn hk.symm, bd_ok, if_ff]
        exact ok_ok ⟨_, rfl, m, hm1, by omega⟩
  · rintro _ ⟨s, rfl, _⟩
    rw [flm_nx]
    rw [show_eq (by decide) (by decide), bd_ok, show f_show_share ((-(1 : Int)), (2 : Int)) = .ok (wrS (-1, 2)) from show_eq (by decide) (by decide), bd_ok, show f_show_share ((-(7 : Int)), (1 : Int)) = .ok (wrS (-7, 1)) from show_eq (by decide) (by decide), bd_ok, c_zero, c_half, c_seven]
    rw [gd_ok (by decide +kernel)]
    have ee : PyData.eqv ((dL PyData.str) [("0" : Str), ("-1/2" : Str), ("-7" : Str)]) ((dL PyData.str) [("0" : Str), ("-1/2" : Str), ("-7" : Str)]) = true := by decide +kernel
    rw [ee]
    exact ok_ok rfl
end LW
namespace LW
open PySem PySem.Spec PyProof.Rows L2 DL TL
theorem all_mk {P : Program} {w : World} {K : PySem.W.Frag} {h : Heap} {mg : Str → Option Value} {fa : Addr} (X : K.In h) (G : h.Ns mainGlobals mg) (hfa : mg "law" = some (.ref fa))
    (I_show_share : FnIn K "show_share" s_show_share) (I__law_pen : FnIn K "_law_pen" s__law_pen) (I__law_draw : FnIn K "_law_draw" s__law_draw) (I__law_share : FnIn K "_law_share" s__law_share) (I__law_writ : FnIn K "_law_writ" s__law_writ) (I_show_worths : FnIn K "show_worths" s_show_worths) (I__law_any : FnIn K "_law_any" s__law_any) (I_law : FnIn K "law" s_law)  (z_abs : PySem.W.nsIn K mainGlobals "abs" = some none) (z_int : PySem.W.nsIn K mainGlobals "int" = some none) (z_isinstance : PySem.W.nsIn K mainGlobals "isinstance" = some none) (z_len : PySem.W.nsIn K mainGlobals "len" = some none) (z_max : PySem.W.nsIn K mainGlobals "max" = some none) (z_range : PySem.W.nsIn K mainGlobals "range" = some none) (z_repr : PySem.W.nsIn K mainGlobals "repr" = some none) (z_str : PySem.W.nsIn K mainGlobals "str" = some none) (z_tuple : PySem.W.nsIn K mainGlobals "tuple" = some none) :
    ∃ fd : FuncData, (∀ (s : Shared) (u : Value), BindsTo s fd ⟨[u], []⟩ [("_law_script", u)]) ∧ ∀ base : Heap, K.In base → base.Ns mainGlobals mg → BaseG P base → GFn P w K mg base 3 fa fd ["_law_script"] P_law := by
  obtain ⟨a_show_share, d_show_share, F_show_share, m_show_share⟩ := I_show_share.fn X G
  obtain ⟨a__law_pen, d__law_pen, F__law_pen, m__law_pen⟩ := I__law_pen.fn X G
  obtain ⟨a__law_draw, d__law_draw, F__law_draw, m__law_draw⟩ := I__law_draw.fn X G
  obtain ⟨a__law_share, d__law_share, F__law_share, m__law_share⟩ := I__law_share.fn X G
  obtain ⟨a__law_writ, d__law_writ, F__law_writ, m__law_writ⟩ := I__law_writ.fn X G
  obtain ⟨a_show_worths, d_show_worths, F_show_worths, m_show_worths⟩ := I_show_worths.fn X G
  obtain ⟨a__law_any, d__law_any, F__law_any, m__law_any⟩ := I__law_any.fn X G
  obtain ⟨a_law, d_law, F_law, m_law⟩ := I_law.fn X G
  refine law_fin F_law m_law hfa (fun _ _ _ _ _ _ us hl => match us, hl with | [_], _ => rfl) fun base KB GB B => ?_
  have C_show_share := ok_show_share (P := P) (w := w) (base := base) F_show_share m_show_share B (PySem.W.mg_none_of X G z_str)  
  have C__law_pen := ok__law_pen (P := P) (w := w) (base := base) F__law_pen m__law_pen B   
  have C__law_draw := ok__law_draw (P := P) (w := w) (base := base) F__law_draw m__law_draw B (PySem.W.mg_none_of X G z_abs) (PySem.W.mg_none_of X G z_len)  
  have C__law_share := ok__law_share (P := P) (w := w) (base := base) F__law_share m__law_share B (PySem.W.mg_none_of X G z_abs)  
  have C__law_writ := ok__law_writ (P := P) (w := w) (base := base) F__law_writ m__law_writ B (PySem.W.mg_none_of X G z_str)  
  have C_show_worths := ok_show_worths (P := P) (w := w) (base := base) F_show_worths m_show_worths B  C_show_share 
  have C__law_any := ok__law_any (P := P) (w := w) (base := base) F__law_any m__law_any B (PySem.W.mg_none_of X G z_int) (PySem.W.mg_none_of X G z_max) C__law_draw C__law_share 
  have C_law := ok_law (P := P) (w := w) (base := base) F_law m_law B (PySem.W.mg_none_of X G z_isinstance) (PySem.W.mg_none_of X G z_range) (PySem.W.mg_none_of X G z_repr) (PySem.W.mg_none_of X G z_str) (PySem.W.mg_none_of X G z_tuple) C__law_pen C__law_draw C__law_any C_show_share C__law_writ C_show_worths 
  exact C_law
end LW
open PySem PySem.W PyProof.Rows
set_option maxHeartbeats 0 in
theorem PySem.Challenge.cw_stepwarmth_k80_shares_and_worths_written_holds : PySem.Challenge.rw_stepwarmth_k80_shares_and_worths_written.Holds := by
  w_on; o_law; k_head; (case hw => w_witness2)
  k_fill
  refine DL.g_walk_of (l := PySem.Challenge.rw_stepwarmth_k80_shares_and_worths_written) (n := 63) (k := 3) (x := "_law_script") (S := LW.P_law) rfl (by decide) rfl ⟨⟨rfl, by decide, by decide⟩, rfl, by decide⟩ rfl (by decide +kernel) (fun w h Y => PySem.W.kIn_of Y) (fun w => ?L) ?F (fun ns hl => TL.law_sp (fn := LW.f_law) LW.law_ok ns hl)
  case L => rfl
  case F =>
    intro w mg fa h KX G hmg
    refine' LW.all_mk KX G hmg (TL.fnIn_mk ?a_show_share ?l_show_share ?c_show_share ?k_show_share) (TL.fnIn_mk ?a__law_pen ?l__law_pen ?c__law_pen ?k__law_pen) (TL.fnIn_mk ?a__law_draw ?l__law_draw ?c__law_draw ?k__law_draw) (TL.fnIn_mk ?a__law_share ?l__law_share ?c__law_share ?k__law_share) (TL.fnIn_mk ?a__law_writ ?l__law_writ ?c__law_writ ?k__law_writ) (TL.fnIn_mk ?a_show_worths ?l_show_worths ?c_show_worths ?k_show_worths) (TL.fnIn_mk ?a__law_any ?l__law_any ?c__law_any ?k__law_any) (TL.fnIn_mk ?a_law ?l_law ?c_law ?k_law)  ?z_abs ?z_int ?z_isinstance ?z_len ?z_max ?z_range ?z_repr ?z_str ?z_tuple
    (case a_show_share => k_is); (case l_show_share => k_is); (case c_show_share => k_is); (case k_show_share => k_is)
    (case a__law_pen => k_is); (case l__law_pen => k_is); (case c__law_pen => k_is); (case k__law_pen => k_is)
    (case a__law_draw => k_is); (case l__law_draw => k_is); (case c__law_draw => k_is); (case k__law_draw => k_is)
    (case a__law_share => k_is); (case l__law_share => k_is); (case c__law_share => k_is); (case k__law_share => k_is)
    (case a__law_writ => k_is); (case l__law_writ => k_is); (case c__law_writ => k_is); (case k__law_writ => k_is)
    (case a_show_worths => k_is); (case l_show_worths => k_is); (case c_show_worths => k_is); (case k_show_worths => k_is)
    (case a__law_any => k_is); (case l__law_any => k_is); (case c__law_any => k_is); (case k__law_any => k_is)
    (case a_law => k_is); (case l_law => k_is); (case c_law => k_is); (case k_law => k_is)
    (case z_abs => k_is)
    (case z_int => k_is)
    (case z_isinstance => k_is)
    (case z_len => k_is)
    (case z_max => k_is)
    (case z_range => k_is)
    (case z_repr => k_is)
    (case z_str => k_is)
    (case z_tuple => k_is)
