import PyProof.Rows.All
import Wide.All
import OpenK.AllK
import Wide.FinOn
import HandS.ForExc
import HandS.ForMost
import HandS.IsInst
import HandS.TupAny
import HandS.Wide
import HandS.Flow
import HandS.Deep
import HandS.Text
import KE.DatumOrd
import HandS.Walk
import HandS.ExcOwn
import HandS.TryOnly
import HandS.WordsExc
import PySem.Challenge.RW_whosetomorrow_k21_whole_rests_alike_and
set_option Elab.async false
set_option linter.all false
set_option maxRecDepth 100000
/-! Rf: Python's values as plain data; frozen and owned objects; readings by denotations -/
namespace Rf
open PySem L2

/-- a value as plain data -/
inductive D where
  | non | bl (b : Bool) | int (i : Int) | str (x : Str) | tup (ds : List D) | lst (ds : List D) | scr (ds : List D)
  | ins (c : Nat) (fs : List (Str × D)) | dic (ks : List (Key × D))
/-- what an owned object holds -/
inductive M where
  | lst (ds : List D) | ins (c : Nat) (fs : List (Str × D)) | dic (ks : List (Key × D))
def M.toD : M → D
  | .lst ds => .lst ds
  | .ins c fs => .ins c fs
  | .dic ks => .dic ks
inductive DV where
  | sh (d : D) | ow (m : M)
abbrev ENV := List (Option DV)
structure EX where
  c : Nat
  fs : List (Str × D)
inductive R (α : Type) where
  | ok (a : α) (ρ : ENV) | exc (e : EX) (ρ : ENV) | bot
def R.bind {α β : Type} (r : R α) (f : α → ENV → R β) : R β := match r with
  | .ok a ρ => f a ρ
  | .exc e ρ => .exc e ρ
  | .bot => .bot
def R.of {α : Type} (o : Option α) (ρ : ENV) : R α := match o with
  | some a => .ok a ρ
  | none => .bot

mutual
inductive Rp (K : PySem.W.Frag) (C : Nat → Addr) (G : Hp) : V → D → Prop
  | non : Rp K C G .non .non
  | bl (b : Bool) : Rp K C G (.bl b) (.bl b)
  | int (i : Int) : Rp K C G (.int i) (.int i)
  | str (x : Str) (h : x.length ≤ sizeLine) : Rp K C G (.str x) (.str x)
  | tup {a : Addr} {xs : List V} {ds : List D} (h : SqT K G a xs) (r : RpL K C G xs ds) : Rp K C G (.ref a) (.tup ds)
  | lst {a : Addr} {xs : List V} {ds : List D} (h : G a = some (.lst xs)) (r : RpL K C G xs ds) : Rp K C G (.ref a) (.lst ds)
  | scr {a : Addr} {xs : List V} {ds : List D} (h : SqL K G a xs) (r : RpL K C G xs ds) : Rp K C G (.ref a) (.scr ds)
  | ins {a dx : Addr} {c : Nat} {fl : List (Str × V)} {fs : List (Str × D)} (h : G a = some (.ins (C c) dx fl)) (r : RpF K C G fl fs) : Rp K C G (.ref a) (.ins c fs)
  | dic {a : Addr} {kv : List (Key × V)} {ks : List (Key × D)} (h : G a = some (.dK kv)) (r : RpK K C G kv ks) : Rp K C G (.ref a) (.dic ks)
inductive RpL (K : PySem.W.Frag) (C : Nat → Addr) (G : Hp) : List V → List D → Prop
  | nil : RpL K C G [] []
  | cons {v : V} {d : D} {vs : List V} {ds : List D} (h : Rp K C G v d) (r : RpL K C G vs ds) : RpL K C G (v :: vs) (d :: ds)
inductive RpF (K : PySem.W.Frag) (C : Nat → Addr) (G : Hp) : List (Str × V) → List (Str × D) → Prop
  | nil : RpF K C G [] []
  | cons {n : Str} {v : V} {d : D} {vs : List (Str × V)} {ds : List (Str × D)} (h : Rp K C G v d) (r : RpF K C G vs ds) : RpF K C G ((n, v) :: vs) ((n, d) :: ds)
inductive RpK (K : PySem.W.Frag) (C : Nat → Addr) (G : Hp) : List (Key × V) → List (Key × D) → Prop
  | nil : RpK K C G [] []
  | cons {n : Key} {v : V} {d : D} {vs : List (Key × V)} {ds : List (Key × D)} (h : Rp K C G v d) (r : RpK K C G vs ds) : RpK K C G ((n, v) :: vs) ((n, d) :: ds)
end

theorem same_seqT {K : PySem.W.Frag} {H H' : Hp} {a : Addr} {xs : List V} (e : Same H H') (h : SqT K H a xs) : SqT K H' a xs := by
  rcases h with (h | ⟨o, h⟩) | h
  · exact .inl (.inl (e _ _ h))
  · exact .inl (.inr ⟨o, e _ _ h⟩)
  · exact .inr h

mutual
theorem Rp.mono {K : PySem.W.Frag} {C : Nat → Addr} {G G' : Hp} (s : Same G G') {v : V} {d : D} : Rp K C G v d → Rp K C G' v d
  | .non => .non
  | .bl b => .bl b
  | .int i => .int i
  | .str x h => .str x h
  | .tup h r => .tup (same_seqT s h) (r.mono s)
  | .lst h r => .lst (s _ _ h) (r.mono s)
  | .scr h r => .scr (Same.seq s h) (r.mono s)
  | .ins h r => .ins (s _ _ h) (r.mono s)
  | .dic h r => .dic (s _ _ h) (r.mono s)
theorem RpL.mono {K : PySem.W.Frag} {C : Nat → Addr} {G G' : Hp} (s : Same G G') {v : List V} {d : List D} : RpL K C G v d → RpL K C G' v d
  | .nil => .nil
  | .cons h r => .cons (h.mono s) (r.mono s)
theorem RpF.mono {K : PySem.W.Frag} {C : Nat → Addr} {G G' : Hp} (s : Same G G') {v : List (Str × V)} {d : List (Str × D)} : RpF K C G v d → RpF K C G' v d
  | .nil => .nil
  | .cons h r => .cons (h.mono s) (r.mono s)
theorem RpK.mono {K : PySem.W.Frag} {C : Nat → Addr} {G G' : Hp} (s : Same G G') {v : List (Key × V)} {d : List (Key × D)} : RpK K C G v d → RpK K C G' v d
  | .nil => .nil
  | .cons h r => .cons (h.mono s) (r.mono s)
end

theorem RpL.length {K : PySem.W.Frag} {C : Nat → Addr} {G : Hp} : ∀ {v : List V} {d : List D}, RpL K C G v d → v.length = d.length
  | _, _, .nil => rfl
  | _, _, .cons _ r => congrArg (· + 1) r.length
theorem RpL.append {K : PySem.W.Frag} {C : Nat → Addr} {G : Hp} : ∀ {v w : List V} {d e : List D}, RpL K C G v d → RpL K C G w e → RpL K C G (v ++ w) (d ++ e)
  | _, _, _, _, .nil, s => s
  | _, _, _, _, .cons h r, s => .cons h (r.append s)
theorem RpL.get {K : PySem.W.Frag} {C : Nat → Addr} {G : Hp} : ∀ {v : List V} {d : List D} {i : Nat} {x : D}, RpL K C G v d → d[i]? = some x → ∃ y, v[i]? = some y ∧ Rp K C G y x
  | _, _, i, _, .nil, e => by simp at e
  | _, _, 0, _, .cons h _, e => by simp at e; subst e; exact ⟨_, rfl, h⟩
  | _, _, i + 1, x, .cons _ r, e => by
    obtain ⟨u, h1, h2⟩ := RpL.get (i := i) (x := x) r (by simpa using e)
    exact ⟨u, by simpa using h1, h2⟩
theorem RpL.getV {K : PySem.W.Frag} {C : Nat → Addr} {G : Hp} : ∀ {v : List V} {d : List D} {i : Nat} {y : V}, RpL K C G v d → v[i]? = some y → ∃ x, d[i]? = some x ∧ Rp K C G y x
  | _, _, i, _, .nil, e => by simp at e
  | _, _, 0, _, .cons h _, e => by simp at e; subst e; exact ⟨_, rfl, h⟩
  | _, _, i + 1, y, .cons _ r, e => by
    obtain ⟨u, h1, h2⟩ := RpL.getV (i := i) (y := y) r (by simpa using e)
    exact ⟨u, by simpa using h1, h2⟩
theorem RpL.set {K : PySem.W.Frag} {C : Nat → Addr} {G : Hp} {x : V} {y : D} (q : Rp K C G x y) : ∀ {v : List V} {d : List D} (i : Nat), RpL K C G v d → RpL K C G (v.set i x) (d.set i y)
  | _, _, _, .nil => .nil
  | _, _, 0, .cons _ r => .cons q r
  | _, _, i + 1, .cons h r => .cons h (RpL.set q i r)
theorem RpL.take {K : PySem.W.Frag} {C : Nat → Addr} {G : Hp} : ∀ {v : List V} {d : List D} (n : Nat), RpL K C G v d → RpL K C G (v.take n) (d.take n)
  | _, _, 0, _ => by simp; exact .nil
  | _, _, _ + 1, .nil => .nil
  | _, _, n + 1, .cons h r => .cons h (RpL.take n r)
theorem RpL.drop {K : PySem.W.Frag} {C : Nat → Addr} {G : Hp} : ∀ {v : List V} {d : List D} (n : Nat), RpL K C G v d → RpL K C G (v.drop n) (d.drop n)
  | _, _, 0, r => r
  | _, _, _ + 1, .nil => .nil
  | _, _, n + 1, .cons _ r => RpL.drop n r

/-- what a frozen or owned object of that content is -/
def HoldsM (K : PySem.W.Frag) (C : Nat → Addr) (G : Hp) (o : HO) : M → Prop
  | .lst ds => ∃ xs, o = .lst xs ∧ RpL K C G xs ds
  | .ins c fs => ∃ dx fl, o = .ins (C c) dx fl ∧ RpF K C G fl fs
  | .dic ks => ∃ kv, o = .dK kv ∧ RpK K C G kv ks
theorem HoldsM.mono {K : PySem.W.Frag} {C : Nat → Addr} {G G' : Hp} (s : Same G G') {o : HO} {m : M} (h : HoldsM K C G o m) : HoldsM K C G' o m := by
  cases m with
  | lst ds => obtain ⟨xs, e, r⟩ := h; exact ⟨xs, e, r.mono s⟩
  | ins c fs => obtain ⟨dx, fl, e, r⟩ := h; exact ⟨dx, fl, e, r.mono s⟩
  | dic ks => obtain ⟨kv, e, r⟩ := h; exact ⟨kv, e, r.mono s⟩
/-- the owned object at p -/
structure Own (K : PySem.W.Frag) (C : Nat → Addr) (B G H : Hp) (p : Addr) (m : M) : Prop where
  nb : B p = none
  ng : G p = none
  at_ : ∃ o, H p = some o ∧ HoldsM K C G o m
/-- the def's own data: the classes' places, what is wished of an exception, the protected slots and their places -/
structure Cc where
  C : Nat → Addr
  W : WX
  pr : List Nat
  ad : Nat → Addr
structure Rl (K : PySem.W.Frag) (cc : Cc) (B : Hp) (ρ : ENV) (σ : St) (G H : Hp) : Prop where
  bk : Same B H
  gk : Same G H
  ln : σ.length = ρ.length
  sh : ∀ (i : Nat) (d : D), ρ[i]? = some (some (.sh d)) → ∃ v, σ[i]? = some (some v) ∧ Rp K cc.C G v d
  ow : ∀ (i : Nat) (m : M), ρ[i]? = some (some (.ow m)) → ∃ p, σ[i]? = some (some (.ref p)) ∧ Own K cc.C B G H p m
  df : ∀ (i j : Nat) (m m' : M) (p : Addr), ρ[i]? = some (some (.ow m)) → ρ[j]? = some (some (.ow m')) → σ[i]? = some (some (.ref p)) → σ[j]? = some (some (.ref p)) → i = j
  pa : ∀ (i : Nat), i ∈ cc.pr → σ[i]? = some (some (.ref (cc.ad i)))
/-- what is frozen grows, outside B -/
structure Ext (B G G' : Hp) : Prop where
  gg : Same G G'
  nb : ∀ a o, G' a = some o → G a = some o ∨ B a = none
theorem Ext.refl (B G : Hp) : Ext B G G := ⟨Same.refl G, fun _ _ h => .inl h⟩
theorem Ext.trans {B G G1 G2 : Hp} (a : Ext B G G1) (b : Ext B G1 G2) : Ext B G G2 := ⟨a.gg.trans b.gg, fun c o h => by
  rcases b.nb c o h with h | h
  · exact a.nb c o h
  · exact .inr h⟩
/-- new objects alone, frozen or not -/
structure Grow (G H G' H' : Hp) : Prop where
  gg : Same G G'
  hh : Same H H'
  gh : Same G' H'
  nw : ∀ a o, G' a = some o → G a = some o ∨ H a = none
theorem Grow.refl {G H : Hp} (s : Same G H) : Grow G H G H := ⟨Same.refl G, Same.refl H, s, fun _ _ h => .inl h⟩
theorem Grow.trans {G H G1 H1 G2 H2 : Hp} (a : Grow G H G1 H1) (b : Grow G1 H1 G2 H2) : Grow G H G2 H2 := ⟨a.gg.trans b.gg, a.hh.trans b.hh, b.gh, fun c o h => by
  rcases b.nw c o h with h | h
  · exact a.nw c o h
  · exact .inr (a.hh.free h)⟩
theorem same_upd {H : Hp} {p : Addr} {o : HO} (h : H p = none) : Same H (upd H p o) := fun b u e => by rw [upd_ne (ne_of_none e h)]; exact e
theorem same_upd2 {G H : Hp} {p : Addr} {o : HO} (s : Same G H) : Same (upd G p o) (upd H p o) := fun b u e => by
  by_cases q : b = p
  · subst q; rw [upd_same] at e ⊢; exact e
  · rw [upd_ne q] at e ⊢; exact s _ _ e
/-- a new object that is frozen at once -/
theorem Grow.new {G H : Hp} {p : Addr} {o : HO} (s : Same G H) (h : H p = none) : Grow G H (upd G p o) (upd H p o) :=
  ⟨same_upd (s.free h), same_upd h, same_upd2 s, fun a u e => by
    by_cases q : a = p
    · subst q; exact .inr h
    · rw [upd_ne q] at e; exact .inl e⟩
/-- a new object that is not frozen -/
theorem Grow.newO {G H : Hp} {p : Addr} {o : HO} (s : Same G H) (h : H p = none) : Grow G H G (upd H p o) :=
  ⟨Same.refl G, same_upd h, s.trans (same_upd h), fun a u e => .inl e⟩
section
variable {K : PySem.W.Frag} {cc : Cc} {B : Hp} {ρ : ENV} {σ : St} {G H G' H' : Hp}
theorem Own.grow {p : Addr} {m : M} (o : Own K cc.C B G H p m) (g : Grow G H G' H') : Own K cc.C B G' H' p m := by
  obtain ⟨x, hx, hm⟩ := o.at_
  refine ⟨o.nb, ?_, x, g.hh _ _ hx, hm.mono g.gg⟩
  cases q : G' p with
  | none => rfl
  | some u =>
    rcases g.nw p u q with h | h
    · rw [o.ng] at h; cases h
    · rw [hx] at h; cases h
theorem Rl.grow (r : Rl K cc B ρ σ G H) (g : Grow G H G' H') : Rl K cc B ρ σ G' H' where
  bk := r.bk.trans g.hh
  gk := g.gh
  ln := r.ln
  sh := fun i d e => let ⟨v, h, p⟩ := r.sh i d e; ⟨v, h, p.mono g.gg⟩
  ow := fun i m e => let ⟨p, h, o⟩ := r.ow i m e; ⟨p, h, o.grow g⟩
  df := r.df
  pa := r.pa
theorem Grow.ext (g : Grow G H G' H') (bk : Same B H) : Ext B G G' := ⟨g.gg, fun a o e => by
  rcases g.nw a o e with h | h
  · exact .inl h
  · exact .inr (bk.free h)⟩
end

/-- an exception -/
def ERp (K : PySem.W.Frag) (C : Nat → Addr) (G : Hp) (e : EX) (cl : Value) (dd : Option Addr) : Prop :=
  cl = .ref (C e.c) ∧ ((e.fs = [] ∧ dd = none) ∨ ∃ dx fl, dd = some dx ∧ G dx = some (.xd fl) ∧ RpF K C G fl e.fs)

/-- behind an expression -/
def Post {α β : Type} (K : PySem.W.Frag) (cc : Cc) (Vr : Hp → β → α → Prop) (B G : Hp) (σ : St) (Q : β → Hp → Prop) (r : R α) : Prop := match r with
  | .ok d ρ' => ∀ v G' H', Ext B G G' → Rl K cc B ρ' σ G' H' → Vr G' v d → Q v H'
  | .exc e ρ' => ∀ cl dd G' H', Ext B G G' → Rl K cc B ρ' σ G' H' → ERp K cc.C G' e cl dd → cc.W cl dd σ H'
  | .bot => False
theorem Post.bind {α β γ δ : Type} {K : PySem.W.Frag} {cc : Cc} {V1 : Hp → β → α → Prop} {V2 : Hp → δ → γ → Prop} {B G : Hp} {σ : St} {Q : δ → Hp → Prop} {Q' : β → Hp → Prop} {r : R α} {f : α → ENV → R γ}
    (h : Post K cc V2 B G σ Q (r.bind f))
    (k : ∀ d ρ1 G1 H1 x, Ext B G G1 → Rl K cc B ρ1 σ G1 H1 → V1 G1 x d → Post K cc V2 B G1 σ Q (f d ρ1) → Q' x H1) : Post K cc V1 B G σ Q' r := by
  cases r with
  | ok d ρ1 =>
    intro v G1 H1 e1 R1 p1
    refine k d ρ1 G1 H1 v e1 R1 p1 ?_
    have h : Post K cc V2 B G σ Q (f d ρ1) := h
    revert h
    cases f d ρ1 with
    | ok c ρ2 => exact fun h v G' H' e R' p => h v G' H' (e1.trans e) R' p
    | exc c ρ2 => exact fun h cl dd G' H' e R' p => h cl dd G' H' (e1.trans e) R' p
    | bot => exact id
  | exc e ρ1 => exact h
  | bot => exact h
theorem Post.mono {α β : Type} {K : PySem.W.Frag} {cc : Cc} {V1 : Hp → β → α → Prop} {B G : Hp} {σ : St} {Q Q' : β → Hp → Prop} {r : R α}
    (h : Post K cc V1 B G σ Q r) (k : ∀ v H, Q v H → Q' v H) : Post K cc V1 B G σ Q' r := by
  cases r with
  | ok d ρ1 => exact fun v G1 H1 e1 R1 p1 => k _ _ (h v G1 H1 e1 R1 p1)
  | exc e ρ1 => exact h
  | bot => exact h
/-- the end: the value is there -/
theorem Post.fin {α β : Type} {K : PySem.W.Frag} {cc : Cc} {V1 : Hp → β → α → Prop} {B G : Hp} {σ : St} {Q : β → Hp → Prop} {d : α} {ρ1 : ENV} {G1 H1 G2 H2 : Hp} {v : β}
    (h : Post K cc V1 B G σ Q (.ok d ρ1)) (R1 : Rl K cc B ρ1 σ G1 H1) (e : Ext B G G1) (g : Grow G1 H1 G2 H2) (p : V1 G2 v d) : Q v H2 :=
  h v G2 H2 (e.trans (g.ext R1.bk)) (R1.grow g) p

def rE (K : PySem.W.Frag) (cc : Cc) (den : ENV → R D) : TE := fun σ H Q => ∃ B ρ G, Rl K cc B ρ σ G H ∧ Post K cc (Rp K cc.C) B G σ Q (den ρ)
def rT (K : PySem.W.Frag) (cc : Cc) (den : ENV → R Bool) : TT := fun σ H Q => ∃ B ρ G, Rl K cc B ρ σ G H ∧ Post K cc (fun _ b c => b = c) B G σ Q (den ρ)
def rA (K : PySem.W.Frag) (cc : Cc) (den : ENV → R (List D)) : TA := fun σ H Q => ∃ B ρ G, Rl K cc B ρ σ G H ∧ Post K cc (RpL K cc.C) B G σ Q (den ρ)
theorem PE.imp {X : Cx} {e : Expr} {t t' : TE} (h : PE X e t) (k : ∀ σ H Q, t' σ H Q → t σ H Q) : PE X e t' := ⟨fun pins s σ H Q I q => h.run pins s σ H Q I (k _ _ _ q)⟩
theorem PT.imp {X : Cx} {e : Expr} {t t' : TT} (h : PT X e t) (k : ∀ σ H Q, t' σ H Q → t σ H Q) : PT X e t' := ⟨fun pins s σ H Q I q => h.run pins s σ H Q I (k _ _ _ q)⟩
theorem PW.imp {X : Cx} {e : Expr} {t t' : TT} (h : PW X e t) (k : ∀ σ H Q, t' σ H Q → t σ H Q) : PW X e t' := ⟨fun wh pins s σ H Q I q => h.run wh pins s σ H Q I (k _ _ _ q)⟩
theorem PA.imp {X : Cx} {e : List Expr} {t t' : TA} (h : PA X e t) (k : ∀ σ H Q, t' σ H Q → t σ H Q) : PA X e t' := ⟨fun pos pins s σ H Q I q => h.run pos pins s σ H Q I (k _ _ _ q)⟩
theorem PS.imp {X : Cx} {e : Stmt} {t t' : TS} (h : PS X e t) (k : ∀ Dn σ H, t' Dn σ H → t Dn σ H) : PS X e t' := ⟨fun pins s σ H Dn I q => h.run pins s σ H Dn I (k _ _ _ q)⟩
theorem PSs.imp {X : Cx} {e : List Stmt} {t t' : TS} (h : PSs X e t) (k : ∀ Dn σ H, t' Dn σ H → t Dn σ H) : PSs X e t' := ⟨fun pins s σ H Dn I q => h.run pins s σ H Dn I (k _ _ _ q)⟩
def DE (X : Cx) (cc : Cc) (e : Expr) (den : ENV → R D) : Prop := PE X e (rE X.K cc den)
def DT (X : Cx) (cc : Cc) (e : Expr) (den : ENV → R Bool) : Prop := PT X e (rT X.K cc den)
def DW (X : Cx) (cc : Cc) (e : Expr) (den : ENV → R Bool) : Prop := PW X e (rT X.K cc den)
def DA (X : Cx) (cc : Cc) (e : List Expr) (den : ENV → R (List D)) : Prop := PA X e (rA X.K cc den)
end Rf
set_option Elab.async false
set_option linter.all false
set_option maxRecDepth 100000
/-! Rf: expressions -/
namespace Rf
open PySem L2
/-! ### names, constants -/
def dVar (i : Nat) : ENV → R D := fun ρ => match ρ[i]? with
  | some (some (.sh d)) => .ok d ρ
  | some (some (.ow m)) => .ok m.toD (ρ.set i (some (.sh m.toD)))
  | _ => .bot
def dC (d : D) : ENV → R D := fun ρ => .ok d ρ
theorem HoldsM.rp {K : PySem.W.Frag} {C : Nat → Addr} {G : Hp} {p : Addr} {o : HO} {m : M} (e : G p = some o) (h : HoldsM K C G o m) : Rp K C G (.ref p) m.toD := by
  cases m with
  | lst ds => obtain ⟨xs, rfl, r⟩ := h; exact .lst e r
  | ins c fs => obtain ⟨dx, fl, rfl, r⟩ := h; exact .ins e r
  | dic ks => obtain ⟨kv, rfl, r⟩ := h; exact .dic e r
/-- an owned slot is frozen -/
theorem Rl.freeze {K : PySem.W.Frag} {cc : Cc} {B : Hp} {ρ : ENV} {σ : St} {G H : Hp} {i : Nat} {m : M} (r : Rl K cc B ρ σ G H) (e : ρ[i]? = some (some (.ow m))) :
    ∃ p G', σ[i]? = some (some (.ref p)) ∧ Ext B G G' ∧ Rl K cc B (ρ.set i (some (.sh m.toD))) σ G' H ∧ Rp K cc.C G' (.ref p) m.toD := by
  obtain ⟨p, hp, o⟩ := r.ow i m e
  obtain ⟨x, hx, hm⟩ := o.at_
  have sG : Same G (upd G p x) := same_upd o.ng
  have rp : Rp K cc.C (upd G p x) (.ref p) m.toD := HoldsM.rp upd_same (hm.mono sG)
  have il : i < ρ.length := (List.getElem?_eq_some_iff.mp e).1
  refine ⟨p, upd G p x, hp, ⟨sG, fun a u q => ?_⟩, ⟨r.bk, fun b u q => ?_, by rw [List.length_set]; exact r.ln, fun j d q => ?_, fun j m' q => ?_, fun j k m1 m2 p' q1 q2 => ?_, r.pa⟩, rp⟩
  · by_cases h : a = p
    · subst h; exact .inr o.nb
    · rw [upd_ne h] at q; exact .inl q
  · by_cases h : b = p
    · subst h; rw [upd_same] at q; cases q; exact hx
    · rw [upd_ne h] at q; exact r.gk b u q
  · by_cases h : j = i
    · subst h
      rw [List.getElem?_set_self il] at q; cases q
      exact ⟨_, hp, rp⟩
    · rw [List.getElem?_set_ne (Ne.symm h)] at q
      obtain ⟨v, h1, h2⟩ := r.sh j d q
      exact ⟨v, h1, h2.mono sG⟩
  · by_cases h : j = i
    · subst h
      rw [List.getElem?_set_self il] at q; cases q
    · rw [List.getElem?_set_ne (Ne.symm h)] at q
      obtain ⟨p', h1, o'⟩ := r.ow j m' q
      have ne : p' ≠ p := fun z => by subst z; exact h (r.df j i m' m p' q e h1 hp)
      obtain ⟨x', hx', hm'⟩ := o'.at_
      exact ⟨p', h1, o'.nb, by rw [upd_ne ne]; exact o'.ng, x', hx', hm'.mono sG⟩
  · have g1 : ρ[j]? = some (some (.ow m1)) := by
      by_cases h : j = i
      · subst h; rw [List.getElem?_set_self il] at q1; cases q1
      · rw [List.getElem?_set_ne (Ne.symm h)] at q1; exact q1
    have g2 : ρ[k]? = some (some (.ow m2)) := by
      by_cases h : k = i
      · subst h; rw [List.getElem?_set_self il] at q2; cases q2
      · rw [List.getElem?_set_ne (Ne.symm h)] at q2; exact q2
    exact r.df j k m1 m2 p' g1 g2
section
variable {X : Cx} {cc : Cc} {a b c e : Expr} {da db dc : ENV → R D} {pos : Pos}
theorem de_var (i : Nat) {x : Str} (hN : X.N[i]? = some x := by rfl) (hv : Vis X.env.scope x := by first | exact Or.inl rfl | exact Or.inr (Or.inl rfl) | exact Or.inr (Or.inr rfl)) (hd : (x == ("__debug__" : Str)) = false := by decide)
    (hcd : (x == ("__classdict__" : Str)) = false := by decide) : DE X cc (.Name x pos) (dVar i) := by
  refine PE.imp (pe_var hN hv hd hcd) fun σ H Q h => ?_
  obtain ⟨B, ρ, G, R1, h⟩ := h
  unfold dVar at h
  split at h
  · rename_i d e
    obtain ⟨v, h1, h2⟩ := R1.sh i d e
    exact ⟨v, h1, h v G H (Ext.refl B G) R1 h2⟩
  · rename_i m e
    obtain ⟨p, G', h1, h2, h3, h4⟩ := R1.freeze e
    exact ⟨_, h1, h _ G' H h2 h3 h4⟩
  · exact h.elim
/-- a constant -/
theorem de_k {v : V} {d : D} (h : PE X e (tC v)) (hr : ∀ G, Rp X.K cc.C G v d) : DE X cc e (dC d) := PE.imp h fun σ H Q ⟨B, ρ, G, R1, h⟩ => h v G H (Ext.refl B G) R1 (hr G)
theorem de_int {i : Int} {j : Nat} : DE X cc (.Constant (.int i) j pos) (dC (.int i)) := de_k pe_int fun _ => .int i
theorem de_bl {i : Bool} {j : Nat} : DE X cc (.Constant (.bool i) j pos) (dC (.bl i)) := de_k pe_bl fun _ => .bl i
theorem de_non {j : Nat} : DE X cc (.Constant .none j pos) (dC .non) := de_k pe_non fun _ => .non
theorem de_str {x : Str} {j : Nat} (h : x.length ≤ sizeLine := by decide +kernel) : DE X cc (.Constant (.str x) j pos) (dC (.str x)) := de_k pe_str fun _ => .str x h

/-! ### operations by values -/
def dOp (f : D → D → Option D) (da db : ENV → R D) : ENV → R D := fun ρ => (da ρ).bind fun x ρ1 => (db ρ1).bind fun y ρ2 => R.of (f x y) ρ2
def dUn (f : D → Option D) (da : ENV → R D) : ENV → R D := fun ρ => (da ρ).bind fun x ρ1 => R.of (f x) ρ1
/-- the rule r does f -/
def V2 (K : PySem.W.Frag) (C : Nat → Addr) (f : D → D → Option D) (r : R2) : Prop :=
  ∀ {G H : Hp} {x y : V} {dx dy d : D} {Q : VK}, Same G H → Rp K C G x dx → Rp K C G y dy → f dx dy = some d → (∀ v G' H', Grow G H G' H' → Rp K C G' v d → Q v H') → r x y H Q
def V1 (K : PySem.W.Frag) (C : Nat → Addr) (f : D → Option D) (r : V → Hp → VK → Prop) : Prop :=
  ∀ {G H : Hp} {x : V} {dx d : D} {Q : VK}, Same G H → Rp K C G x dx → f dx = some d → (∀ v G' H', Grow G H G' H' → Rp K C G' v d → Q v H') → r x H Q
theorem V2.or {K : PySem.W.Frag} {C : Nat → Addr} {f g : D → D → Option D} {r r' : R2} (h : V2 K C f r) (h' : V2 K C g r') : V2 K C (fun x y => (f x y).orElse fun _ => g x y) (fun x y H Q => r x y H Q ∨ r' x y H Q) := by
  intro G H x y dx dy d Q s px py e k
  cases hf : f dx dy with
  | some z => simp only [hf, Option.orElse_some, Option.some.injEq] at e; subst e; exact .inl (h s px py hf k)
  | none => simp only [hf, Option.orElse_none] at e; exact .inr (h' s px py e k)
theorem V2.imp {K : PySem.W.Frag} {C : Nat → Addr} {f g : D → D → Option D} {r : R2} (h : V2 K C f r) (hg : ∀ x y d, g x y = some d → f x y = some d) : V2 K C g r :=
  fun s px py e k => h s px py (hg _ _ _ e) k
theorem op_core {r : R2} {f : D → D → Option D} (hv : V2 X.K cc.C f r) : ∀ σ H Q, rE X.K cc (dOp f da db) σ H Q → tOp r (rE X.K cc da) (rE X.K cc db) σ H Q := by
  intro σ H Q ⟨B, ρ, G, R0, h⟩
  refine ⟨B, ρ, G, R0, h.bind fun d1 ρ1 G1 H1 x e1 R1 p1 h1 => ⟨B, ρ1, G1, R1, h1.bind fun d2 ρ2 G2 H2 y e2 R2 p2 h2 => ?_⟩⟩
  cases hf : f d1 d2 with
  | none => rw [hf] at h2; exact h2.elim
  | some d =>
    rw [hf] at h2
    exact hv R2.gk (p1.mono e2.gg) p2 hf fun v G' H' g p => Post.fin h2 R2 (Ext.refl _ _) g p
theorem de_op {op : Operator} {r : R2} {f : D → D → Option D} (ho : OpR X (binaryOp op) r) (hv : V2 X.K cc.C f r) (ha : DE X cc a da) (hb : DE X cc b db) : DE X cc (.BinOp a op b pos) (dOp f da db) :=
  PE.imp (pe_op ho ha hb) (op_core hv)
theorem de_cmp {op : CmpOp} {r : R2} {f : D → D → Option D} (ho : OpR X (compareOp op) r) (hv : V2 X.K cc.C f r) (hm : behindInMarks op b = false) (ha : DE X cc a da) (hb : DE X cc b db) : DE X cc (.Compare a [op] [b] pos) (dOp f da db) :=
  PE.imp (pe_cmpR ho ha hb hm) (op_core hv)
theorem de_un {op : UnaryOp} {r : V → Hp → VK → Prop} {f : D → Option D} (ho : UnR X (unaryOp op) r) (hv : V1 X.K cc.C f r) (ha : DE X cc a da) : DE X cc (.UnaryOp op a pos) (dUn f da) := by
  refine PE.imp (pe_un ho ha) fun σ H Q ⟨B, ρ, G, R0, h⟩ => ⟨B, ρ, G, R0, h.bind fun d1 ρ1 G1 H1 x e1 R1 p1 h1 => ?_⟩
  cases hf : f d1 with
  | none => rw [hf] at h1; exact h1.elim
  | some d =>
    rw [hf] at h1
    exact hv R1.gk p1 hf fun v G' H' g p => Post.fin h1 R1 (Ext.refl _ _) g p
/-- a value that is a truth, as a test -/
def asT (r : R D) : R Bool := r.bind fun d ρ => match d with
  | .bl b => .ok b ρ
  | _ => .bot
def dT (den : ENV → R D) : ENV → R Bool := fun ρ => asT (den ρ)
theorem test_core {t : TE} {den : ENV → R D} (k : ∀ σ H Q, rE X.K cc den σ H Q → t σ H Q) : ∀ σ H Q, rT X.K cc (dT den) σ H Q → tTest t σ H Q := by
  intro σ H Q ⟨B, ρ, G, R0, h⟩
  refine k _ _ _ ⟨B, ρ, G, R0, Post.bind (V2 := fun _ b c => b = c) h fun d1 ρ1 G1 H1 x e1 R1 p1 h1 => ?_⟩
  cases p1 with
  | bl b => exact ⟨b, rfl, h1 b G1 H1 (Ext.refl _ _) R1 rfl⟩
  | _ => exact h1.elim
theorem dt_cmp {op : CmpOp} {r : R2} {f : D → D → Option D} (ho : OpR X (compareOp op) r) (hv : V2 X.K cc.C f r) (hm : behindInMarks op b = false) (ha : DE X cc a da) (hb : DE X cc b db) : DT X cc (.Compare a [op] [b] pos) (dT (dOp f da db)) :=
  PT.imp (pt_cmpR ho ha hb hm) (test_core (op_core hv))

/-! ### truth, and, or, not -/
def tru : D → Option Bool
  | .non => some false
  | .bl b => some b
  | .int i => some (i != 0)
  | .str x => some ((x.length : Int) != 0)
  | .tup ds => some (!ds.isEmpty)
  | .lst ds => some (!ds.isEmpty)
  | .scr ds => some (!ds.isEmpty)
  | .dic ks => some (!ks.isEmpty)
  | .ins _ _ => none
theorem RpL.empty {K : PySem.W.Frag} {C : Nat → Addr} {G : Hp} {v : List V} {d : List D} (r : RpL K C G v d) : v.isEmpty = d.isEmpty := by cases r <;> rfl
theorem RpK.empty {K : PySem.W.Frag} {C : Nat → Addr} {G : Hp} {v : List (Key × V)} {d : List (Key × D)} (r : RpK K C G v d) : v.isEmpty = d.isEmpty := by cases r <;> rfl
theorem tru_of {K : PySem.W.Frag} {C : Nat → Addr} {G H : Hp} {v : V} {d : D} {k : Bool} (s : Same G H) (p : Rp K C G v d) (e : tru d = some k) : TruV K v H k := by
  cases p with
  | non => cases e; rfl
  | bl b => cases e; rfl
  | int i => cases e; rfl
  | str x h => cases e; exact ⟨h, rfl⟩
  | tup h r => cases e; exact .inr (.inl ⟨_, same_seqT s h, by rw [r.empty]⟩)
  | lst h r => cases e; exact .inl ⟨_, .inl (.inl (s _ _ h)), by rw [r.empty]⟩
  | scr h r => cases e; exact .inl ⟨_, Same.seq s h, by rw [r.empty]⟩
  | ins h r => cases e
  | dic h r => cases e; exact .inr (.inr ⟨_, s _ _ h, by rw [r.empty]⟩)
def dTru (den : ENV → R D) : ENV → R Bool := fun ρ => (den ρ).bind fun d ρ1 => R.of (tru d) ρ1
theorem dt_tru (ha : DE X cc a da) (he : ∀ whole, isTrue a X.env whole = (do let v ← whole; standAt a.pos; holding [v] (truthy v)) := by intro _; rfl) : DT X cc a (dTru da) := by
  refine PT.imp (pt_truth ha he) fun σ H Q ⟨B, ρ, G, R0, h⟩ => ⟨B, ρ, G, R0, Post.bind (V2 := fun _ b c => b = c) h fun d1 ρ1 G1 H1 x e1 R1 p1 h1 => ?_⟩
  cases hf : tru d1 with
  | none => rw [hf] at h1; exact h1.elim
  | some k =>
    rw [hf] at h1
    exact ⟨k, tru_of R1.gk p1 hf, h1 k G1 H1 (Ext.refl _ _) R1 rfl⟩
def dAnd (da db : ENV → R Bool) : ENV → R Bool := fun ρ => (da ρ).bind fun x ρ1 => if x = true then db ρ1 else .ok false ρ1
def dOr (da db : ENV → R Bool) : ENV → R Bool := fun ρ => (da ρ).bind fun x ρ1 => if x = true then .ok true ρ1 else db ρ1
def dNot (da : ENV → R Bool) : ENV → R Bool := fun ρ => (da ρ).bind fun x ρ1 => .ok (!x) ρ1
variable {ta tb : ENV → R Bool} {rest : List Expr}
theorem dw_and1 (ha : DT X cc a ta) : DW X cc (.BoolOp .And [a] pos) ta := pw_and1 ha
theorem dw_or1 (ha : DT X cc a ta) : DW X cc (.BoolOp .Or [a] pos) ta := pw_or1 ha
theorem dw_and (ha : DT X cc a ta) (hb : DW X cc (.BoolOp .And (b :: rest) pos) tb) : DW X cc (.BoolOp .And (a :: b :: rest) pos) (dAnd ta tb) := by
  refine PW.imp (pw_and ha hb) fun σ H Q ⟨B, ρ, G, R0, h⟩ => ⟨B, ρ, G, R0, Post.bind (V2 := fun _ b c => b = c) h fun d1 ρ1 G1 H1 x e1 R1 p1 h1 => ?_⟩
  subst p1
  cases x with
  | true => exact iteT ⟨B, ρ1, G1, R1, h1⟩
  | false => exact iteF (h1 false G1 H1 (Ext.refl _ _) R1 rfl)
theorem dw_or (ha : DT X cc a ta) (hb : DW X cc (.BoolOp .Or (b :: rest) pos) tb) : DW X cc (.BoolOp .Or (a :: b :: rest) pos) (dOr ta tb) := by
  refine PW.imp (pw_or ha hb) fun σ H Q ⟨B, ρ, G, R0, h⟩ => ⟨B, ρ, G, R0, Post.bind (V2 := fun _ b c => b = c) h fun d1 ρ1 G1 H1 x e1 R1 p1 h1 => ?_⟩
  subst p1
  cases x with
  | true => exact iteT (h1 true G1 H1 (Ext.refl _ _) R1 rfl)
  | false => exact iteF ⟨B, ρ1, G1, R1, h1⟩
theorem dt_w (h : DW X cc a ta) : DT X cc a ta := PW.pt h
theorem dt_not (ha : DT X cc a ta) : DT X cc (.UnaryOp .Not a pos) (dNot ta) := by
  refine PT.imp (pt_not ha) fun σ H Q ⟨B, ρ, G, R0, h⟩ => ⟨B, ρ, G, R0, Post.bind (V2 := fun _ b c => b = c) h fun d1 ρ1 G1 H1 x e1 R1 p1 h1 => ?_⟩
  subst p1
  exact h1 (!x) G1 H1 (Ext.refl _ _) R1 rfl
/-- .. as values -/
def dAndV (da db : ENV → R D) : ENV → R D := fun ρ => (da ρ).bind fun x ρ1 => match tru x with
  | some true => db ρ1
  | some false => .ok x ρ1
  | none => .bot
def dOrV (da db : ENV → R D) : ENV → R D := fun ρ => (da ρ).bind fun x ρ1 => match tru x with
  | some true => .ok x ρ1
  | some false => db ρ1
  | none => .bot
def dNotV (da : ENV → R D) : ENV → R D := fun ρ => (da ρ).bind fun x ρ1 => R.of ((tru x).map fun k => .bl (!k)) ρ1
theorem de_one {op : BoolOp} (h : DE X cc a da) : DE X cc (.BoolOp op [a] pos) da := pe_one h
theorem de_and (ha : DE X cc a da) (hb : DE X cc (.BoolOp .And (b :: rest) pos) db) : DE X cc (.BoolOp .And (a :: b :: rest) pos) (dAndV da db) := by
  refine PE.imp (pe_andT ha hb) fun σ H Q ⟨B, ρ, G, R0, h⟩ => ⟨B, ρ, G, R0, h.bind fun d1 ρ1 G1 H1 x e1 R1 p1 h1 => ?_⟩
  cases hf : tru d1 with
  | none => simp only [hf] at h1; exact h1.elim
  | some k =>
    simp only [hf] at h1
    refine ⟨k, tru_of R1.gk p1 hf, ?_⟩
    cases k with
    | true => exact iteT ⟨B, ρ1, G1, R1, h1⟩
    | false => exact iteF (h1 x G1 H1 (Ext.refl _ _) R1 p1)
theorem de_or (ha : DE X cc a da) (hb : DE X cc (.BoolOp .Or (b :: rest) pos) db) : DE X cc (.BoolOp .Or (a :: b :: rest) pos) (dOrV da db) := by
  refine PE.imp (pe_orT ha hb) fun σ H Q ⟨B, ρ, G, R0, h⟩ => ⟨B, ρ, G, R0, h.bind fun d1 ρ1 G1 H1 x e1 R1 p1 h1 => ?_⟩
  cases hf : tru d1 with
  | none => simp only [hf] at h1; exact h1.elim
  | some k =>
    simp only [hf] at h1
    refine ⟨k, tru_of R1.gk p1 hf, ?_⟩
    cases k with
    | true => exact iteT (h1 x G1 H1 (Ext.refl _ _) R1 p1)
    | false => exact iteF ⟨B, ρ1, G1, R1, h1⟩
theorem de_not (ha : DE X cc a da) : DE X cc (.UnaryOp .Not a pos) (dNotV da) := by
  refine PE.imp (pe_notT ha) fun σ H Q ⟨B, ρ, G, R0, h⟩ => ⟨B, ρ, G, R0, h.bind fun d1 ρ1 G1 H1 x e1 R1 p1 h1 => ?_⟩
  cases hf : tru d1 with
  | none => simp only [hf, Option.map_none] at h1; exact h1.elim
  | some k =>
    simp only [hf, Option.map_some] at h1
    exact ⟨k, tru_of R1.gk p1 hf, h1 (.bl (!k)) G1 H1 (Ext.refl _ _) R1 (.bl _)⟩
def dIf (t : ENV → R Bool) (da db : ENV → R D) : ENV → R D := fun ρ => (t ρ).bind fun x ρ1 => if x = true then da ρ1 else db ρ1
theorem de_if (hc : DT X cc c ta) (ha : DE X cc a da) (hb : DE X cc b db) : DE X cc (.IfExp c a b pos) (dIf ta da db) := by
  refine PE.imp (pe_ifExp hc ha hb) fun σ H Q ⟨B, ρ, G, R0, h⟩ => ⟨B, ρ, G, R0, h.bind fun d1 ρ1 G1 H1 x e1 R1 p1 h1 => ?_⟩
  subst p1
  cases x with
  | true => exact iteT ⟨B, ρ1, G1, R1, h1⟩
  | false => exact iteF ⟨B, ρ1, G1, R1, h1⟩

/-! ### displays -/
def dNil : ENV → R (List D) := fun ρ => .ok [] ρ
def dCons (da : ENV → R D) (dr : ENV → R (List D)) : ENV → R (List D) := fun ρ => (da ρ).bind fun x ρ1 => (dr ρ1).bind fun xs ρ2 => .ok (x :: xs) ρ2
variable {dr : ENV → R (List D)} {es : List Expr}
theorem da_nil : DA X cc [] dNil := PA.imp pa_nil fun σ H Q ⟨B, ρ, G, R0, h⟩ => h [] G H (Ext.refl _ _) R0 .nil
theorem da_cons (ha : DE X cc e da) (hr : DA X cc es dr) (hs : starEach (e :: es) X.env = (false, eval e X.env) :: starEach es X.env := by rfl) : DA X cc (e :: es) (dCons da dr) := by
  refine PA.imp (pa_cons ha hr hs) fun σ H Q ⟨B, ρ, G, R0, h⟩ => ⟨B, ρ, G, R0, h.bind fun d1 ρ1 G1 H1 x e1 R1 p1 h1 => ⟨B, ρ1, G1, R1, h1.bind fun d2 ρ2 G2 H2 y e2 R2 p2 h2 => ?_⟩⟩
  exact h2 (x :: y) G2 H2 (Ext.refl _ _) R2 (.cons (p1.mono e2.gg) p2)
def dTup (dr : ENV → R (List D)) : ENV → R D := fun ρ => (dr ρ).bind fun xs ρ1 => if xs.length ≤ sizeLine then .ok (.tup xs) ρ1 else .bot
def dLst (dr : ENV → R (List D)) : ENV → R D := fun ρ => (dr ρ).bind fun xs ρ1 => if xs.length ≤ sizeLine then .ok (.lst xs) ρ1 else .bot
theorem ite_post {α β : Type} {K : PySem.W.Frag} {Vr : Hp → β → α → Prop} {B G : Hp} {σ : St} {Q : β → Hp → Prop} {p : Prop} [Decidable p] {r : R α} (h : Post K cc Vr B G σ Q (if p then r else .bot)) : p ∧ Post K cc Vr B G σ Q r := by
  by_cases q : p
  · rw [if_pos q] at h; exact ⟨q, h⟩
  · rw [if_neg q] at h; exact h.elim
theorem de_tuple {x1 : Nat} (h : DA X cc es dr) : DE X cc (.Tuple es x1 pos) (dTup dr) := by
  refine PE.imp (pe_tup h) fun σ H Q ⟨B, ρ, G, R0, h⟩ => ⟨B, ρ, G, R0, h.bind fun ds ρ1 G1 H1 xs e1 R1 p1 h1 => ?_⟩
  obtain ⟨hz, h1⟩ := ite_post h1
  refine ⟨by rw [p1.length]; exact hz, fun p hp => ?_⟩
  have g := Grow.new (o := .tup xs) R1.gk hp
  exact Post.fin h1 R1 (Ext.refl _ _) g (.tup (.inl (.inl upd_same)) (p1.mono g.gg))
theorem de_list (h : DA X cc es dr) : DE X cc (.List es pos) (dLst dr) := by
  refine PE.imp (pe_lst h) fun σ H Q ⟨B, ρ, G, R0, h⟩ => ⟨B, ρ, G, R0, h.bind fun ds ρ1 G1 H1 xs e1 R1 p1 h1 => ?_⟩
  obtain ⟨hz, h1⟩ := ite_post h1
  refine ⟨by rw [p1.length]; exact hz, fun p hp => ?_⟩
  have g := Grow.new (o := .lst xs) R1.gk hp
  exact Post.fin h1 R1 (Ext.refl _ _) g (.lst upd_same (p1.mono g.gg))
end
end Rf
set_option Elab.async false
set_option linter.all false
set_option maxRecDepth 100000
/-! Rf: operations on values -/
namespace Rf
open PySem L2
/-! ### data of the library -/
mutual
def D.toPy : D → PyData
  | .non => .none
  | .bl b => .bool b
  | .int i => .int i
  | .str x => .str x
  | .tup ds => .tuple (toPyL ds)
  | .lst ds => .list (toPyL ds)
  | .scr ds => .list (toPyL ds)
  | .ins _ _ => .dict []
  | .dic _ => .dict []
def toPyL : List D → List PyData
  | [] => []
  | d :: ds => d.toPy :: toPyL ds
end
mutual
theorem Rp.dp {K : PySem.W.Frag} {C : Nat → Addr} {G H : Hp} (s : Same G H) {v : V} {d : D} : Rp K C G v d → d.toPy.canLay0 = true → Dp K H v d.toPy
  | .non, _ => .non
  | .bl b, _ => .bl b
  | .int i, _ => .int i
  | .str x _, _ => .str x
  | .tup h r, c => .tup (same_seqT s h) (r.dp s (by simpa [D.toPy, PyData.canLay0] using c))
  | .lst h r, c => .lst (.inl (.inl (s _ _ h))) (r.dp s (by simpa [D.toPy, PyData.canLay0] using c))
  | .scr h r, c => .lst (Same.seq s h) (r.dp s (by simpa [D.toPy, PyData.canLay0] using c))
  | .ins _ _, c => by simp [D.toPy, PyData.canLay0] at c
  | .dic _ _, c => by simp [D.toPy, PyData.canLay0] at c
theorem RpL.dp {K : PySem.W.Frag} {C : Nat → Addr} {G H : Hp} (s : Same G H) {v : List V} {d : List D} : RpL K C G v d → PyData.canLayAll0 (toPyL d) = true → DpAll K H v (toPyL d)
  | .nil, _ => .nil
  | .cons h r, c => by
    have c' := Bool.and_eq_true_iff.mp (show (PyData.canLay0 _ && PyData.canLayAll0 _) = true by simpa [toPyL, PyData.canLayAll0] using c)
    exact .cons (h.dp s c'.1) (r.dp s c'.2)
end
def vEq (neg : Bool) (x y : D) : Option D := if SeqAt.shaped x.toPy = true ∧ SeqAt.shaped y.toPy = true then some (.bl (if neg then !PyData.eqv x.toPy y.toPy else PyData.eqv x.toPy y.toPy)) else none
section
variable {K : PySem.W.Frag} {C : Nat → Addr}
theorem Grow.here {G H : Hp} {Q : VK} {d : D} {v : V} (s : Same G H) (k : ∀ v G' H', Grow G H G' H' → Rp K C G' v d → Q v H') (p : Rp K C G v d) : Q v H := k v G H (Grow.refl s) p
theorem v2_eq : V2 K C (vEq false) (rEqD K) := by
  intro G H x y dx dy d Q s px py e k
  unfold vEq at e
  split at e
  · rename_i h
    cases e
    exact ⟨_, _, px.dp s (SeqAt.canLay_of_shaped h.1), py.dp s (SeqAt.canLay_of_shaped h.2), h.1, h.2, Grow.here s k (.bl _)⟩
  · cases e
theorem v2_ne : V2 K C (vEq true) (rNeD K) := by
  intro G H x y dx dy d Q s px py e k
  unfold vEq at e
  split at e
  · rename_i h
    cases e
    exact ⟨_, _, px.dp s (SeqAt.canLay_of_shaped h.1), py.dp s (SeqAt.canLay_of_shaped h.2), h.1, h.2, Grow.here s k (.bl _)⟩
  · cases e
/-- ints -/
def vI (f : Int → Int → Int) : D → D → Option D
  | .int i, .int j => some (.int (f i j))
  | _, _ => none
def vIc (c : Int → Int → Bool) (f : Int → Int → Int) : D → D → Option D
  | .int i, .int j => if c i j = true then some (.int (f i j)) else none
  | _, _ => none
def vB (f : Int → Int → Bool) : D → D → Option D
  | .int i, .int j => some (.bl (f i j))
  | _, _ => none
theorem v2_I {f : Int → Int → Int} : V2 K C (vI f) (rI0 fun i j => .int (f i j)) := by
  intro G H x y dx dy d Q s px py e k
  cases px with
  | int i =>
    cases py with
    | int j => cases e; exact ⟨i, j, rfl, rfl, Grow.here s k (.int _)⟩
    | _ => cases e
  | _ => cases e
theorem v2_Ic {c : Int → Int → Bool} {P : Int → Int → Prop} {f : Int → Int → Int} (hc : ∀ i j, c i j = true → P i j) : V2 K C (vIc c f) (rI P fun i j => .int (f i j)) := by
  intro G H x y dx dy d Q s px py e k
  cases px with
  | int i =>
    cases py with
    | int j =>
      dsimp only [vIc] at e
      split at e
      · rename_i h; cases e; exact ⟨i, j, rfl, rfl, hc i j h, Grow.here s k (.int _)⟩
      · cases e
    | _ => cases e
  | _ => cases e
theorem v2_B {f : Int → Int → Bool} : V2 K C (vB f) (rI0 fun i j => .bl (f i j)) := by
  intro G H x y dx dy d Q s px py e k
  cases px with
  | int i =>
    cases py with
    | int j => cases e; exact ⟨i, j, rfl, rfl, Grow.here s k (.bl _)⟩
    | _ => cases e
  | _ => cases e
/-- + -/
def vAddS : D → D → Option D
  | .str a, .str b => if a.length + b.length ≤ sizeLine then some (.str (a ++ b)) else none
  | _, _ => none
def vAddT : D → D → Option D
  | .tup a, .tup b => if a.length + b.length ≤ sizeLine then some (.tup (a ++ b)) else none
  | _, _ => none
def vAddL : D → D → Option D
  | .lst a, .lst b => if a.length + b.length ≤ sizeLine then some (.lst (a ++ b)) else none
  | _, _ => none
theorem v2_addS : V2 K C vAddS (fun x y H Q => ∃ i j, x = .str i ∧ y = .str j ∧ i.length + j.length ≤ sizeLine ∧ Q (.str (i ++ j)) H) := by
  intro G H x y dx dy d Q s px py e k
  cases px with
  | str i h1 =>
    cases py with
    | str j h2 =>
      dsimp only [vAddS] at e
      split at e
      · rename_i h; cases e; exact ⟨i, j, rfl, rfl, h, Grow.here s k (.str _ (by rw [Str.length_append]; exact h))⟩
      · cases e
    | _ => cases e
  | _ => cases e
theorem v2_addT : V2 K C vAddT (rCatA K) := by
  intro G H x y dx dy d Q s px py e k
  cases px with
  | @tup a xs ds h1 r1 =>
    cases py with
    | @tup b ys es h2 r2 =>
      dsimp only [vAddT] at e
      split at e
      · rename_i h
        cases e
        refine ⟨a, b, xs, ys, rfl, rfl, same_seqT s h1, same_seqT s h2, by rw [r1.length, r2.length]; exact h, fun q => ?_, fun q1 q2 => ?_, fun q1 q2 p hp => ?_⟩
        · subst q; cases r1; exact Grow.here s k (.tup h2 r2)
        · subst q2; cases r2; rw [List.append_nil] at k; exact Grow.here s k (.tup h1 r1)
        · have g := Grow.new (o := .tup (xs ++ ys)) s hp
          exact k _ _ _ g (.tup (.inl (.inl upd_same)) ((r1.mono g.gg).append (r2.mono g.gg)))
      · cases e
    | _ => cases e
  | _ => cases e
theorem v2_addL : V2 K C vAddL rCat := by
  intro G H x y dx dy d Q s px py e k
  cases px with
  | @lst a xs ds h1 r1 =>
    cases py with
    | @lst b ys es h2 r2 =>
      dsimp only [vAddL] at e
      split at e
      · rename_i h
        cases e
        refine ⟨a, b, xs, ys, rfl, rfl, s _ _ h1, s _ _ h2, by rw [r1.length, r2.length]; exact h, fun p hp => ?_⟩
        have g := Grow.new (o := .lst (xs ++ ys)) s hp
        exact k _ _ _ g (.lst upd_same ((r1.mono g.gg).append (r2.mono g.gg)))
      · cases e
    | _ => cases e
  | _ => cases e
def vAdd (x y : D) : Option D := match x with
  | .int _ => vI (fun i j => i + j) x y
  | .str _ => vAddS x y
  | .tup _ => vAddT x y
  | .lst _ => vAddL x y
  | _ => none
def rAddA (K : PySem.W.Frag) : R2 := fun x y H Q => rI0 (fun i j => V.int (i + j)) x y H Q ∨ (∃ i j, x = .str i ∧ y = .str j ∧ i.length + j.length ≤ sizeLine ∧ Q (.str (i ++ j)) H) ∨ rCatA K x y H Q ∨ rCat x y H Q
theorem v2_add : V2 K C vAdd (rAddA K) := by
  intro G H x y dx dy d Q s px py e k
  cases dx with
  | int i => exact .inl (v2_I s px py e k)
  | str i => exact .inr (.inl (v2_addS s px py e k))
  | tup i => exact .inr (.inr (.inl (v2_addT s px py e k)))
  | lst i => exact .inr (.inr (.inr (v2_addL s px py e k)))
  | _ => cases e
/-- x * k -/
def cMul (i j : Int) : Bool := decide (i.natAbs < 2 ^ 64) || decide (j.natAbs < 2 ^ 64) || decide (i.natAbs.log2 + j.natAbs.log2 < 1000000)
def cDiv (_ j : Int) : Bool := decide (0 < j) && decide (j.natAbs.log2 < 9000)
def cMod (_ j : Int) : Bool := decide (0 < j)
def cPow (i j : Int) : Bool := decide (0 ≤ j) && decide (j ≤ 1000000) && decide (i.natAbs < 2 ^ 64)
end
section
variable {X : Cx}
theorem op_addA : OpR X (binaryOp .Add) (rAddA X.K) := op_add.or (op_add_str.or (op_catA.or op_cat))
def PMul (i j : Int) : Prop := CMul i j ∨ CMulW i j
theorem op_mulA : OpR X (binaryOp .Mult) (rI PMul fun i j => .int (i * j)) := by
  intro pins s σ H x y v u Q I rx ry ⟨i, j, e1, e2, hc, q⟩
  rcases hc with h | h
  · exact op_mul pins s σ H x y v u Q I rx ry ⟨i, j, e1, e2, h, q⟩
  · exact op_mulW pins s σ H x y v u Q I rx ry ⟨i, j, e1, e2, h, q⟩
theorem cMul_ok (i j : Int) (h : cMul i j = true) : PMul i j := by
  unfold cMul at h
  simp only [Bool.or_eq_true, decide_eq_true_eq] at h
  rcases h with (h | h) | h
  · exact .inl (.inl (by omega))
  · exact .inl (.inr (by omega))
  · exact .inr h
theorem cDiv_ok (i j : Int) (h : cDiv i j = true) : CDivW i j := by
  unfold cDiv at h
  simp only [Bool.and_eq_true, decide_eq_true_eq] at h
  exact h
theorem cMod_ok (i j : Int) (h : cMod i j = true) : 0 < j := of_decide_eq_true h
theorem cPow_ok (i j : Int) (h : cPow i j = true) : CPow i j := by
  unfold cPow at h
  simp only [Bool.and_eq_true, decide_eq_true_eq] at h
  exact ⟨h.1.1, h.1.2, h.2⟩
end
section
variable {X : Cx} {cc : Cc} {a b e : Expr} {da db : ENV → R D} {pos : Pos}
abbrev dAdd := dOp vAdd
abbrev dSub := dOp (vI fun i j => i - j)
abbrev dMul := dOp (vIc cMul fun i j => i * j)
abbrev dDiv := dOp (vIc cDiv fun i j => i / j)
abbrev dMod := dOp (vIc cMod fun i j => i % j)
abbrev dPow := dOp (vIc cPow fun i j => i ^ j.toNat)
theorem de_add (ha : DE X cc a da) (hb : DE X cc b db) : DE X cc (.BinOp a .Add b pos) (dAdd da db) := de_op op_addA v2_add ha hb
theorem de_sub (ha : DE X cc a da) (hb : DE X cc b db) : DE X cc (.BinOp a .Sub b pos) (dSub da db) := de_op op_sub v2_I ha hb
theorem de_mul (ha : DE X cc a da) (hb : DE X cc b db) : DE X cc (.BinOp a .Mult b pos) (dMul da db) := de_op op_mulA (v2_Ic cMul_ok) ha hb
theorem de_div (ha : DE X cc a da) (hb : DE X cc b db) : DE X cc (.BinOp a .FloorDiv b pos) (dDiv da db) := de_op op_fdivW (v2_Ic cDiv_ok) ha hb
theorem de_mod (ha : DE X cc a da) (hb : DE X cc b db) : DE X cc (.BinOp a .Mod b pos) (dMod da db) := de_op op_mod (v2_Ic cMod_ok) ha hb
theorem de_pow (ha : DE X cc a da) (hb : DE X cc b db) : DE X cc (.BinOp a .Pow b pos) (dPow da db) := de_op op_pow (v2_Ic cPow_ok) ha hb
def vNeg : D → Option D
  | .int i => some (.int (-i))
  | _ => none
abbrev dNeg := dUn vNeg
theorem v1_neg {K : PySem.W.Frag} {C : Nat → Addr} : V1 K C vNeg (rU fun i => .int (-i)) := by
  intro G H x dx d Q s px e k
  cases px with
  | int i => cases e; exact ⟨i, rfl, Grow.here s k (.int _)⟩
  | _ => cases e
theorem de_neg (ha : DE X cc a da) : DE X cc (.UnaryOp .USub a pos) (dNeg da) := de_un un_neg v1_neg ha

/-! ### comparisons: by a kind -/
inductive CK where
  | lt | le | gt | ge | eq | ne | isN | notN | in_ | notIn
def vIs (neg : Bool) (x y : D) : Option D := match y with
  | .non => some (.bl (match x with | .non => !neg | _ => neg))
  | _ => none
/-- in a list, in a tuple, a text in a text -/
def vIn (neg : Bool) (x y : D) : Option D :=
  let fin (ds : List D) : Option D := if SeqAt.shaped x.toPy = true ∧ PyData.canLayAll0 (toPyL ds) = true then some (.bl (if neg then !((toPyL ds).any fun z => PyData.eqv z x.toPy) else (toPyL ds).any fun z => PyData.eqv z x.toPy)) else none
  match y with
  | .lst ds => fin ds
  | .scr ds => fin ds
  | .tup ds => fin ds
  | .str z => match x with
    | .str c => some (.bl (if neg then !(!(Builtin.Str.occurrences z c 0 z.length 1).isEmpty) else !(Builtin.Str.occurrences z c 0 z.length 1).isEmpty))
    | _ => none
  | _ => none
def rInA (K : PySem.W.Frag) (neg : Bool) : R2 := fun x y H Q => (∃ d e ds, Dp K H x d ∧ Dp K H y e ∧ (e = .list ds ∨ e = .tuple ds) ∧ SeqAt.shaped d = true ∧ PyData.canLayAll0 ds = true ∧ Q (.bl (if neg then !(ds.any fun z => PyData.eqv z d) else ds.any fun z => PyData.eqv z d)) H) ∨
  ∃ i j, x = .str i ∧ y = .str j ∧ Q (.bl (if neg then !(!(Builtin.Str.occurrences j i 0 j.length 1).isEmpty) else !(Builtin.Str.occurrences j i 0 j.length 1).isEmpty)) H
theorem op_inA (hu : X.A.units + 65 < cLine) : OpR X (compareOp .In) (rInA X.K false) := by
  intro pins s σ H x y v u Q I rx ry h
  rcases h with ⟨d, e, ds, hd, he, hk, sd, se, q⟩ | ⟨i, j, e1, e2, q⟩
  · obtain ⟨as, r1⟩ := Dp.reads I d x v hd rx
    obtain ⟨bs, r2⟩ := Dp.reads I e y u he ry
    rcases hk with rfl | rfl
    · exact SeqAt.in_list_reads r2 r1 se (SeqAt.canLay_of_shaped sd) (PyProof.Rows.room_in_shaped sd hu) ⟨.bl _, H, I, rfl, q⟩
    · exact SeqAt.in_tuple_reads r2 r1 se (SeqAt.canLay_of_shaped sd) (PyProof.Rows.room_in_shaped sd hu) ⟨.bl _, H, I, rfl, q⟩
  · exact op_in_str pins s σ H x y v u Q I rx ry ⟨i, j, e1, e2, q⟩
theorem op_notInA (hu : X.A.units + 65 < cLine) : OpR X (compareOp .NotIn) (rInA X.K true) := by
  intro pins s σ H x y v u Q I rx ry h
  rcases h with ⟨d, e, ds, hd, he, hk, sd, se, q⟩ | ⟨i, j, e1, e2, q⟩
  · obtain ⟨as, r1⟩ := Dp.reads I d x v hd rx
    obtain ⟨bs, r2⟩ := Dp.reads I e y u he ry
    rcases hk with rfl | rfl
    · exact SeqAt.notIn_list_reads r2 r1 se (SeqAt.canLay_of_shaped sd) (PyProof.Rows.room_in_shaped sd hu) ⟨.bl _, H, I, rfl, q⟩
    · exact SeqAt.notIn_tuple_reads r2 r1 se (SeqAt.canLay_of_shaped sd) (PyProof.Rows.room_in_shaped sd hu) ⟨.bl _, H, I, rfl, q⟩
  · exact L2.op_notIn_str pins s σ H x y v u Q I rx ry ⟨i, j, e1, e2, q⟩
theorem v2_in {K : PySem.W.Frag} {C : Nat → Addr} {neg : Bool} : V2 K C (vIn neg) (rInA K neg) := by
  intro G H x y dx dy d Q s px py e k
  have go : ∀ (ds : List D) (w : PyData), (w = .list (toPyL ds) ∨ w = .tuple (toPyL ds)) → (PyData.canLayAll0 (toPyL ds) = true → Dp K H y w) →
      (if SeqAt.shaped dx.toPy = true ∧ PyData.canLayAll0 (toPyL ds) = true then some (D.bl (if neg then !((toPyL ds).any fun z => PyData.eqv z dx.toPy) else (toPyL ds).any fun z => PyData.eqv z dx.toPy)) else none) = some d → rInA K neg x y H Q := by
    intro ds w hw hd e
    split at e
    · rename_i h
      cases e
      exact .inl ⟨_, w, _, px.dp s (SeqAt.canLay_of_shaped h.1), hd h.2, hw, h.1, h.2, Grow.here s k (.bl _)⟩
    · cases e
  cases py with
  | @lst a xs ds h r => exact go ds _ (.inl rfl) (fun c => .lst (.inl (.inl (s _ _ h))) (r.dp s c)) e
  | @scr a xs ds h r => exact go ds _ (.inl rfl) (fun c => .lst (Same.seq s h) (r.dp s c)) e
  | @tup a xs ds h r => exact go ds _ (.inr rfl) (fun c => .tup (same_seqT s h) (r.dp s c)) e
  | str z hz =>
    cases px with
    | str c hc => cases e; exact .inr ⟨c, z, rfl, rfl, Grow.here s k (.bl _)⟩
    | _ => cases e
  | _ => cases e
theorem v2_is {K : PySem.W.Frag} {C : Nat → Addr} : V2 K C (vIs false) (fun x y H Q => y = .non ∧ Q (.bl (decide (x = .non))) H) := by
  intro G H x y dx dy d Q s px py e k
  cases py with
  | non =>
    cases e
    refine ⟨rfl, ?_⟩
    cases px with
    | non => exact Grow.here s k (.bl _)
    | _ => exact Grow.here s k (.bl _)
  | _ => cases e
theorem v2_isNot {K : PySem.W.Frag} {C : Nat → Addr} : V2 K C (vIs true) (fun x y H Q => y = .non ∧ Q (.bl (!decide (x = .non))) H) := by
  intro G H x y dx dy d Q s px py e k
  cases py with
  | non =>
    cases e
    refine ⟨rfl, ?_⟩
    cases px with
    | non => exact Grow.here s k (.bl _)
    | _ => exact Grow.here s k (.bl _)
  | _ => cases e
def CK.op : CK → CmpOp
  | .lt => .Lt | .le => .LtE | .gt => .Gt | .ge => .GtE | .eq => .Eq | .ne => .NotEq | .isN => .Is | .notN => .IsNot | .in_ => .In | .notIn => .NotIn
def CK.f : CK → D → D → Option D
  | .lt => vB fun i j => decide (i < j)
  | .le => vB fun i j => decide (i ≤ j)
  | .gt => vB fun i j => decide (j < i)
  | .ge => vB fun i j => decide (j ≤ i)
  | .eq => vEq false | .ne => vEq true | .isN => vIs false | .notN => vIs true | .in_ => vIn false | .notIn => vIn true
def CK.r (K : PySem.W.Frag) : CK → R2
  | .lt => rI0 fun i j => .bl (decide (i < j))
  | .le => rI0 fun i j => .bl (decide (i ≤ j))
  | .gt => rI0 fun i j => .bl (decide (j < i))
  | .ge => rI0 fun i j => .bl (decide (j ≤ i))
  | .eq => rEqD K | .ne => rNeD K
  | .isN => fun x y H Q => y = .non ∧ Q (.bl (decide (x = .non))) H
  | .notN => fun x y H Q => y = .non ∧ Q (.bl (!decide (x = .non))) H
  | .in_ => rInA K false | .notIn => rInA K true
theorem CK.ok (k : CK) (hu : X.A.units + 65 < cLine) : OpR X (compareOp k.op) (k.r X.K) := by
  cases k with
  | lt => exact op_lt
  | le => exact op_le
  | gt => exact op_gt
  | ge => exact op_ge
  | eq => exact op_eqD (by omega)
  | ne => exact op_neD (by omega)
  | isN => exact op_isN
  | notN => exact op_notN
  | in_ => exact op_inA hu
  | notIn => exact op_notInA hu
theorem CK.v (k : CK) {K : PySem.W.Frag} {C : Nat → Addr} : V2 K C k.f (k.r K) := by
  cases k with
  | lt => exact v2_B
  | le => exact v2_B
  | gt => exact v2_B
  | ge => exact v2_B
  | eq => exact v2_eq
  | ne => exact v2_ne
  | isN => exact v2_is
  | notN => exact v2_isNot
  | in_ => exact v2_in
  | notIn => exact v2_in
abbrev dCmp (k : CK) := dOp k.f
theorem de_c (k : CK) (hu : X.A.units + 65 < cLine) (ha : DE X cc a da) (hb : DE X cc b db) (hm : behindInMarks k.op b = false := by rfl) : DE X cc (.Compare a [k.op] [b] pos) (dCmp k da db) := de_cmp (k.ok hu) k.v hm ha hb
theorem dt_c (k : CK) (hu : X.A.units + 65 < cLine) (ha : DE X cc a da) (hb : DE X cc b db) (hm : behindInMarks k.op b = false := by rfl) : DT X cc (.Compare a [k.op] [b] pos) (dT (dCmp k da db)) := dt_cmp (k.ok hu) k.v hm ha hb
/-- a k1 b k2 c -/
def dChain (f g : D → D → Option D) (da db dc : ENV → R D) : ENV → R D := fun ρ => (da ρ).bind fun x ρ1 => (db ρ1).bind fun y ρ2 => match f x y with
  | some (.bl true) => (dc ρ2).bind fun z ρ3 => R.of (g y z) ρ3
  | some (.bl false) => .ok (.bl false) ρ2
  | _ => .bot
variable {c : Expr} {dc : ENV → R D}
theorem chain_core {f g : D → D → Option D} {r r' : R2} (h1 : V2 X.K cc.C f r) (h2 : V2 X.K cc.C g r') : ∀ σ H Q, rE X.K cc (dChain f g da db dc) σ H Q → tChain r r' (rE X.K cc da) (rE X.K cc db) (rE X.K cc dc) σ H Q := by
  intro σ H Q ⟨B, ρ, G, R0, h⟩
  refine ⟨B, ρ, G, R0, h.bind fun d1 ρ1 G1 H1 x e1 R1 p1 q1 => ⟨B, ρ1, G1, R1, q1.bind fun d2 ρ2 G2 H2 y e2 R2 p2 q2 => ?_⟩⟩
  cases hf : f d1 d2 with
  | none => simp only [hf] at q2; exact q2.elim
  | some d =>
    cases d with
    | bl k =>
      refine h1 R2.gk (p1.mono e2.gg) p2 hf fun v G' H' gr p => ?_
      cases p
      refine ⟨k, rfl, ?_⟩
      have R3 := R2.grow gr
      cases k with
      | false =>
        simp only [hf] at q2
        exact iteF (Post.fin q2 R2 (Ext.refl _ _) gr (.bl false))
      | true =>
        simp only [hf] at q2
        refine iteT ⟨B, ρ2, G', R3, ?_⟩
        have q3 : Post X.K cc (Rp X.K cc.C) B G' σ Q ((dc ρ2).bind fun z ρ3 => R.of (g d2 z) ρ3) := by
          revert q2
          cases ((dc ρ2).bind fun z ρ3 => R.of (g d2 z) ρ3) with
          | ok a ρ => exact fun q v G' H' e R p => q v G' H' ((gr.ext R2.bk).trans e) R p
          | exc a ρ => exact fun q cl dd G' H' e R p => q cl dd G' H' ((gr.ext R2.bk).trans e) R p
          | bot => exact id
        refine q3.bind fun d3 ρ3 G3 H3 z e3 R3' p3 q3 => ?_
        cases hg : g d2 d3 with
        | none => rw [hg] at q3; exact q3.elim
        | some d =>
          rw [hg] at q3
          exact h2 R3'.gk (p2.mono (gr.gg.trans e3.gg)) p3 hg fun v G' H' g p => Post.fin q3 R3' (Ext.refl _ _) g p
    | _ => simp only [hf] at q2; exact q2.elim
theorem de_chain (k k' : CK) (hu : X.A.units + 65 < cLine) (ha : DE X cc a da) (hb : DE X cc b db) (hc : DE X cc c dc) (hm : lastMarks [k.op, k'.op] [b, c] = false := by with_unfolding_all rfl) : DE X cc (.Compare a [k.op, k'.op] [b, c] pos) (dChain k.f k'.f da db dc) :=
  PE.imp (pe_chain (k.ok hu) (k'.ok hu) ha hb hc hm) (chain_core k.v k'.v)
theorem dt_chain (k k' : CK) (hu : X.A.units + 65 < cLine) (ha : DE X cc a da) (hb : DE X cc b db) (hc : DE X cc c dc) (hm : lastMarks [k.op, k'.op] [b, c] = false := by with_unfolding_all rfl) : DT X cc (.Compare a [k.op, k'.op] [b, c] pos) (dT (dChain k.f k'.f da db dc)) :=
  PT.imp (pt_chain (k.ok hu) (k'.ok hu) ha hb hc hm) (test_core (chain_core k.v k'.v))

/-! ### items, slices -/
def vIx : D → D → Option D
  | .tup ds, .int i => atI ds i
  | .tup ds, .bl b => atI ds (if b then 1 else 0)
  | .lst ds, .int i => atI ds i
  | .scr ds, .int i => atI ds i
  | .str z, .int i => (atI z.cps.toList i).map fun c => .str ⟨#[c]⟩
  | _, _ => none
theorem RpL.atI {K : PySem.W.Frag} {C : Nat → Addr} {G : Hp} {v : List V} {d : List D} {i : Int} {x : D} (r : RpL K C G v d) (e : L2.atI d i = some x) : ∃ y, L2.atI v i = some y ∧ Rp K C G y x := by
  unfold L2.atI at e ⊢
  rw [r.length]
  cases h : ixN d.length i with
  | none => rw [h] at e; cases e
  | some j => rw [h] at e; exact r.get e
theorem sign_len (c : Nat) : (⟨#[c]⟩ : Str).length ≤ sizeLine := by rw [sizeLine_eq]; show 1 ≤ _; decide
def vIxI : D → D → Option D
  | .tup ds, .int i => atI ds i
  | .lst ds, .int i => atI ds i
  | .scr ds, .int i => atI ds i
  | .str z, .int i => (atI z.cps.toList i).map fun c => .str ⟨#[c]⟩
  | _, _ => none
theorem v2_ix {K : PySem.W.Frag} {C : Nat → Addr} : V2 K C vIxI (rIx K) := by
  intro G H x y dx dy d Q s px py e k
  cases py with
  | int i =>
    cases px with
    | tup h r =>
      obtain ⟨z, h1, h2⟩ := r.atI (show L2.atI _ i = some d from e)
      exact .inr (.inl ⟨_, _, i, z, rfl, rfl, same_seqT s h, h1, Grow.here s k h2⟩)
    | lst h r =>
      obtain ⟨z, h1, h2⟩ := r.atI (show L2.atI _ i = some d from e)
      exact .inl ⟨_, _, i, z, rfl, rfl, .inl (.inl (s _ _ h)), h1, Grow.here s k h2⟩
    | scr h r =>
      obtain ⟨z, h1, h2⟩ := r.atI (show L2.atI _ i = some d from e)
      exact .inl ⟨_, _, i, z, rfl, rfl, Same.seq s h, h1, Grow.here s k h2⟩
    | str z hz =>
      have e : (L2.atI z.cps.toList i).map (fun c => D.str ⟨#[c]⟩) = some d := e
      cases hc : L2.atI z.cps.toList i with
      | none => rw [hc] at e; cases e
      | some c =>
        rw [hc] at e; cases e
        exact .inr (.inr ⟨z, i, c, rfl, rfl, hz, hc, Grow.here s k (.str _ (sign_len c))⟩)
    | _ => cases e
  | _ => cases px <;> cases e
abbrev dIx := dOp vIxI
theorem de_ix (ha : DE X cc a da) (hb : DE X cc b db) (hs : PlainIx b := by intro _ _; rfl) : DE X cc (.Subscript a b pos) (dIx da db) := PE.imp (pe_ix ix_seq ha hb hs) (op_core v2_ix)
end
end Rf
set_option Elab.async false
set_option linter.all false
set_option maxRecDepth 100000
/-! Rf: slices, built-ins, walks, comprehensions, fresh objects -/
namespace Rf
open PySem L2
section
variable {X : Cx} {cc : Cc} {a b c e : Expr} {da db dc : ENV → R D} {pos : Pos} {es : List Expr} {dr : ENV → R (List D)}
/-! ### slices -/
def dNoPart : ENV → R (Option Int) := fun ρ => .ok none ρ
def dPart (da : ENV → R D) : ENV → R (Option Int) := fun ρ => (da ρ).bind fun x ρ1 => match x with
  | .int i => .ok (some i) ρ1
  | _ => .bot
def rO (K : PySem.W.Frag) (cc : Cc) (den : ENV → R (Option Int)) : TO := fun σ H Q => ∃ B ρ G, Rl K cc B ρ σ G H ∧ Post K cc (fun _ b c => b = c) B G σ Q (den ρ)
def DO (X : Cx) (cc : Cc) (e : Option Expr) (den : ENV → R (Option Int)) : Prop := PO X e (rO X.K cc den)
theorem PO.imp {e : Option Expr} {t t' : TO} (h : PO X e t) (k : ∀ σ H Q, t' σ H Q → t σ H Q) : PO X e t' := ⟨fun pins s σ H Q I q => h.run pins s σ H Q I (k _ _ _ q)⟩
theorem do_none : DO X cc none dNoPart := PO.imp po_none fun σ H Q ⟨B, ρ, G, R0, h⟩ => h none G H (Ext.refl _ _) R0 rfl
theorem do_some (ha : DE X cc a da) : DO X cc (some a) (dPart da) := by
  refine PO.imp (po_some ha) fun σ H Q ⟨B, ρ, G, R0, h⟩ => ⟨B, ρ, G, R0, Post.bind (V2 := fun _ b c => b = c) h fun d1 ρ1 G1 H1 x e1 R1 p1 h1 => ?_⟩
  cases p1 with
  | int i => exact ⟨i, rfl, h1 (some i) G1 H1 (Ext.refl _ _) R1 rfl⟩
  | _ => exact h1.elim
def cutD (xs : List D) (lo hi : Option Int) : List D := (xs.drop (HT.sIx xs.length 0 lo)).take (HT.sIx xs.length xs.length hi - HT.sIx xs.length 0 lo)
def vSl (x : D) (lo hi : Option Int) : Option D := match x with
  | .tup ds => some (.tup (cutD ds lo hi))
  | .lst ds => some (.lst (cutD ds lo hi))
  | .str z => some (.str (cutS z lo hi))
  | _ => none
def rSlA2 (K : PySem.W.Frag) : V → Option Int → Option Int → Hp → VK → Prop := fun x lo hi H Q => rSlA K x lo hi H Q ∨ rSlL K x lo hi H Q ∨ rSlS x lo hi H Q
theorem RpL.cut {K : PySem.W.Frag} {C : Nat → Addr} {G : Hp} {v : List V} {d : List D} (r : RpL K C G v d) (lo hi : Option Int) : RpL K C G (cutV v lo hi) (cutD d lo hi) := by
  unfold cutV cutD
  rw [r.length]
  exact (r.drop _).take _
theorem cutD_whole (ds : List D) (lo hi : Option Int) (h : HT.sIx ds.length 0 lo = 0 ∧ HT.sIx ds.length ds.length hi = ds.length) : cutD ds lo hi = ds := by
  unfold cutD
  rw [h.1, h.2]
  simp
def dSl (da : ENV → R D) (dl dh : ENV → R (Option Int)) : ENV → R D := fun ρ => (da ρ).bind fun x ρ1 => (dl ρ1).bind fun l ρ2 => (dh ρ2).bind fun h ρ3 => R.of (vSl x l h) ρ3
theorem de_sl {lo hi : Option Expr} {dl dh : ENV → R (Option Int)} {p2 : Pos} (ha : DE X cc a da) (hl : DO X cc lo dl) (hh : DO X cc hi dh) : DE X cc (.Subscript a (.Slice lo hi none p2) pos) (dSl da dl dh) := by
  refine PE.imp (pe_slice (sl_tupA.or (sl_list.or sl_str)) ha hl hh) fun σ H Q ⟨B, ρ, G, R0, h⟩ => ⟨B, ρ, G, R0, h.bind fun d1 ρ1 G1 H1 x e1 R1 p1 h1 => ⟨B, ρ1, G1, R1, Post.bind (V1 := fun _ b c => b = c) h1 fun l ρ2 G2 H2 l' e2 R2 p2 h2 =>
    ⟨B, ρ2, G2, R2, Post.bind (V1 := fun _ b c => b = c) h2 fun u ρ3 G3 H3 u' e3 R3 p3 h3 => ?_⟩⟩⟩
  subst p2 p3
  have p1 := p1.mono (e2.gg.trans e3.gg)
  cases p1 with
  | @tup a xs ds h r =>
    refine .inl ⟨a, xs, rfl, same_seqT R3.gk h, fun q => ?_, fun q p hp => ?_⟩
    · refine Post.fin h3 R3 (Ext.refl _ _) (Grow.refl R3.gk) ?_
      rw [cutD_whole ds _ _ (by rw [← r.length]; exact q)]
      exact .tup h r
    · have g := Grow.new (o := .tup (cutV xs l' u')) R3.gk hp
      exact Post.fin h3 R3 (Ext.refl _ _) g (.tup (.inl (.inl upd_same)) ((r.cut _ _).mono g.gg))
  | @lst a xs ds h r =>
    refine .inr (.inl ⟨a, xs, rfl, .inl (.inl (R3.gk _ _ h)), fun p hp => ?_⟩)
    have g := Grow.new (o := .lst (cutV xs l' u')) R3.gk hp
    exact Post.fin h3 R3 (Ext.refl _ _) g (.lst upd_same ((r.cut _ _).mono g.gg))
  | str z hz => exact .inr (.inr ⟨z, rfl, hz, Post.fin h3 R3 (Ext.refl _ _) (Grow.refl R3.gk) (.str _ (Nat.le_trans (cutS_length z _ _) hz))⟩)
  | _ => exact h3.elim

/-! ### built-ins by values -/
def dB (f : List D → Option D) (dr : ENV → R (List D)) : ENV → R D := fun ρ => (dr ρ).bind fun xs ρ1 => R.of (f xs) ρ1
def VB (K : PySem.W.Frag) (C : Nat → Addr) (f : List D → Option D) (r : List V → Hp → VK → Prop) : Prop :=
  ∀ {G H : Hp} {xs : List V} {ds : List D} {d : D} {Q : VK}, Same G H → RpL K C G xs ds → f ds = some d → (∀ v G' H', Grow G H G' H' → Rp K C G' v d → Q v H') → r xs H Q
theorem cb_core {r : List V → Hp → VK → Prop} {f : List D → Option D} (hv : VB X.K cc.C f r) : ∀ σ H Q, rE X.K cc (dB f dr) σ H Q → tCB r (rA X.K cc dr) σ H Q := by
  intro σ H Q ⟨B, ρ, G, R0, h⟩
  refine ⟨B, ρ, G, R0, h.bind fun d1 ρ1 G1 H1 x e1 R1 p1 h1 => ?_⟩
  cases hf : f d1 with
  | none => rw [hf] at h1; exact h1.elim
  | some d =>
    rw [hf] at h1
    exact hv R1.gk p1 hf fun v G' H' g p => Post.fin h1 R1 (Ext.refl _ _) g p
theorem de_B {id : String} {x : Str} {p : Pos} {r : List V → Hp → VK → Prop} {f : List D → Option D} (hc : CallR X (.builtin id) r) (hf : VB X.K cc.C f r) (hg : Gl X x) (hm : X.mg x = none) (hv : bootBuiltins x = some (.builtin id)) (ha : DA X cc (e :: es) dr)
    (hn : x ≠ "__name__" := by decide) (hdb : (x == ("__debug__" : Str)) = false := by decide) (he : starEach (e :: es) X.env = (false, eval e X.env) :: starEach es X.env := by rfl) (hpl : (backTo pos (starEach es X.env)).any (·.1) = false := by rfl) :
    DE X cc (.Call (.Name x p) (e :: es) [] pos) (dB f dr) := PE.imp (pe_callB hc hg hm hv ha hn hdb he hpl) (cb_core hf)
theorem de_T {T : String} {x : Str} {p : Pos} {r : List V → Hp → VK → Prop} {f : List D → Option D} (hc : CallR X (.type T) r) (hf : VB X.K cc.C f r) (hg : Gl X x) (hm : X.mg x = none) (hv : bootBuiltins x = some (.type T)) (ha : DA X cc (e :: es) dr)
    (hn : x ≠ "__name__" := by decide) (hdb : (x == ("__debug__" : Str)) = false := by decide) (he : starEach (e :: es) X.env = (false, eval e X.env) :: starEach es X.env := by rfl) (hpl : (backTo pos (starEach es X.env)).any (·.1) = false := by rfl) :
    DE X cc (.Call (.Name x p) (e :: es) [] pos) (dB f dr) := PE.imp (pe_callTy hc hg hm hv ha hn hdb he hpl) (cb_core hf)
variable {K : PySem.W.Frag} {C : Nat → Addr}
def fLen : List D → Option D
  | [.str z] => some (.int z.length)
  | [.tup ds] => some (.int ds.length)
  | [.lst ds] => some (.int ds.length)
  | [.scr ds] => some (.int ds.length)
  | _ => none
def rLen (K : PySem.W.Frag) : List V → Hp → VK → Prop := fun xs H Q => (∃ p ys, xs = [.ref p] ∧ (SqL K H p ys ∨ SqT K H p ys) ∧ Q (.int ys.length) H) ∨ ∃ z, xs = [.str z] ∧ z.length ≤ sizeLine ∧ Q (.int z.length) H
theorem vb_len : VB K C fLen (rLen K) := by
  intro G H xs ds d Q s r e k
  cases r with
  | nil => cases e
  | cons h t =>
    cases t with
    | cons _ _ => cases h <;> cases e
    | nil =>
      cases h with
      | str z hz => cases e; exact .inr ⟨z, rfl, hz, Grow.here s k (.int _)⟩
      | tup h r => cases e; exact .inl ⟨_, _, rfl, .inr (same_seqT s h), by rw [r.length]; exact Grow.here s k (.int _)⟩
      | lst h r => cases e; exact .inl ⟨_, _, rfl, .inl (.inl (.inl (s _ _ h))), by rw [r.length]; exact Grow.here s k (.int _)⟩
      | scr h r => cases e; exact .inl ⟨_, _, rfl, .inl (Same.seq s h), by rw [r.length]; exact Grow.here s k (.int _)⟩
      | _ => cases e
def fInt : List D → Option D
  | [.int i] => some (.int i)
  | [.bl b] => some (.int (if b then 1 else 0))
  | _ => none
theorem vb_int : VB K C fInt (fun xs H Q => (∃ i, xs = [.int i] ∧ Q (.int i) H) ∨ ∃ k, xs = [.bl k] ∧ Q (.int (if k then 1 else 0)) H) := by
  intro G H xs ds d Q s r e k
  cases r with
  | nil => cases e
  | cons h t =>
    cases t with
    | cons _ _ => cases h <;> cases e
    | nil =>
      cases h with
      | int i => cases e; exact .inl ⟨i, rfl, Grow.here s k (.int _)⟩
      | bl i => cases e; exact .inr ⟨i, rfl, Grow.here s k (.int _)⟩
      | _ => cases e
def fAbs : List D → Option D
  | [.int i] => some (.int (if i < 0 then -i else i))
  | _ => none
theorem vb_abs : VB K C fAbs (fun xs H Q => ∃ i, xs = [.int i] ∧ Q (.int (if i < 0 then -i else i)) H) := by
  intro G H xs ds d Q s r e k
  cases r with
  | nil => cases e
  | cons h t =>
    cases t with
    | cons _ _ => cases h <;> cases e
    | nil =>
      cases h with
      | int i => cases e; exact ⟨i, rfl, Grow.here s k (.int _)⟩
      | _ => cases e
def fTuple : List D → Option D
  | [.lst ds] => some (.tup ds)
  | [.scr ds] => some (.tup ds)
  | [.tup ds] => some (.tup ds)
  | _ => none
theorem vb_tuple : VB K C fTuple (fun xs H Q => ∃ p ys, xs = [.ref p] ∧ ((SqL K H p ys ∧ ∀ l, H l = none → Q (.ref l) (upd H l (.tup ys))) ∨ (SqT K H p ys ∧ Q (.ref p) H))) := by
  intro G H xs ds d Q s r e k
  have go : ∀ {p : Addr} {ys : List V} {es : List D}, SqL K H p ys → RpL K C G ys es → d = .tup es → ∃ q zs, [V.ref p] = [V.ref q] ∧ ((SqL K H q zs ∧ ∀ l, H l = none → Q (.ref l) (upd H l (.tup zs))) ∨ (SqT K H q zs ∧ Q (.ref q) H)) := by
    intro p ys es h r e
    subst e
    refine ⟨p, ys, rfl, .inl ⟨h, fun l hl => ?_⟩⟩
    have g := Grow.new (o := .tup ys) s hl
    exact k _ _ _ g (.tup (.inl (.inl upd_same)) (r.mono g.gg))
  cases r with
  | nil => cases e
  | cons h t =>
    cases t with
    | cons _ _ => cases h <;> cases e
    | nil =>
      cases h with
      | lst h r => cases e; exact go (.inl (.inl (s _ _ h))) r rfl
      | scr h r => cases e; exact go (Same.seq s h) r rfl
      | tup h r => cases e; exact ⟨_, _, rfl, .inr ⟨same_seqT s h, Grow.here s k (.tup h r)⟩⟩
      | _ => cases e
def fList : List D → Option D
  | [.lst ds] => some (.lst ds)
  | [.scr ds] => some (.lst ds)
  | [.tup ds] => some (.lst ds)
  | _ => none
theorem vb_list : VB K C fList (fun xs H Q => ∃ p ys, xs = [.ref p] ∧ (SqL K H p ys ∨ SqT K H p ys) ∧ ∀ l, H l = none → Q (.ref l) (upd H l (.lst ys))) := by
  intro G H xs ds d Q s r e k
  have go : ∀ {p : Addr} {ys : List V} {es : List D}, (SqL K H p ys ∨ SqT K H p ys) → RpL K C G ys es → d = .lst es → ∃ q zs, [V.ref p] = [V.ref q] ∧ (SqL K H q zs ∨ SqT K H q zs) ∧ ∀ l, H l = none → Q (.ref l) (upd H l (.lst zs)) := by
    intro p ys es h r e
    subst e
    refine ⟨p, ys, rfl, h, fun l hl => ?_⟩
    have g := Grow.new (o := .lst ys) s hl
    exact k _ _ _ g (.lst upd_same (r.mono g.gg))
  cases r with
  | nil => cases e
  | cons h t =>
    cases t with
    | cons _ _ => cases h <;> cases e
    | nil =>
      cases h with
      | lst h r => cases e; exact go (.inl (.inl (.inl (s _ _ h)))) r rfl
      | scr h r => cases e; exact go (.inl (Same.seq s h)) r rfl
      | tup h r => cases e; exact go (.inr (same_seqT s h)) r rfl
      | _ => cases e
/-- the truths of a list -/
def bools : List D → Option (List Bool)
  | [] => some []
  | .bl b :: r => (bools r).map (b :: ·)
  | _ => none
theorem RpL.bools {G : Hp} : ∀ {vs : List V} {ds : List D} {bs : List Bool}, RpL K C G vs ds → Rf.bools ds = some bs → vs = bs.map V.bl
  | _, _, bs, .nil, e => by cases e; rfl
  | _, _, bs, .cons (d := d) h r, e => by
    cases h with
    | bl b =>
      unfold Rf.bools at e
      rename_i ds
      cases h2 : Rf.bools ds with
      | none => rw [h2] at e; cases e
      | some cs => rw [h2] at e; cases e; rw [r.bools h2]; rfl
    | _ => cases e
def fAll : List D → Option D
  | [.lst ds] => (bools ds).map fun bs => .bl (bs.all id)
  | _ => none
def fAny : List D → Option D
  | [.lst ds] => (bools ds).map fun bs => .bl (bs.any id)
  | _ => none
theorem vb_all : VB K C fAll (rAll K) := by
  intro G H xs ds d Q s r e k
  cases r with
  | nil => cases e
  | cons h t =>
    cases t with
    | cons _ _ => cases h <;> cases e
    | nil =>
      cases h with
      | @lst a xs ds h r =>
        have e : (bools ds).map (fun bs => D.bl (bs.all id)) = some d := e
        cases hb : bools ds with
        | none => rw [hb] at e; cases e
        | some bs => rw [hb] at e; cases e; exact ⟨a, bs, rfl, by rw [← r.bools hb]; exact .inl (.inl (s _ _ h)), Grow.here s k (.bl _)⟩
      | _ => cases e
theorem vb_any : VB K C fAny (rAny K) := by
  intro G H xs ds d Q s r e k
  cases r with
  | nil => cases e
  | cons h t =>
    cases t with
    | cons _ _ => cases h <;> cases e
    | nil =>
      cases h with
      | @lst a xs ds h r =>
        have e : (bools ds).map (fun bs => D.bl (bs.any id)) = some d := e
        cases hb : bools ds with
        | none => rw [hb] at e; cases e
        | some bs => rw [hb] at e; cases e; exact ⟨a, bs, rfl, by rw [← r.bools hb]; exact .inl (.inl (s _ _ h)), Grow.here s k (.bl _)⟩
      | _ => cases e
/-- the ints of a list -/
def intsOf : List D → Option (List Int)
  | [] => some []
  | .int b :: r => (intsOf r).map (b :: ·)
  | _ => none
theorem RpL.intsV {G : Hp} : ∀ {vs : List V} {ds : List D} {bs : List Int}, RpL K C G vs ds → Rf.intsOf ds = some bs → vs = bs.map V.int
  | _, _, bs, .nil, e => by cases e; rfl
  | _, _, bs, .cons (d := d) h r, e => by
    cases h with
    | int b =>
      unfold Rf.intsOf at e
      rename_i ds
      cases h2 : Rf.intsOf ds with
      | none => rw [h2] at e; cases e
      | some cs => rw [h2] at e; cases e; rw [r.intsV h2]; rfl
    | _ => cases e
def fSum : List D → Option D
  | [.lst ds] => (intsOf ds).map fun bs => .int bs.sum
  | [.scr ds] => (intsOf ds).map fun bs => .int bs.sum
  | _ => none
theorem vb_sum : VB K C fSum (rSum K) := by
  intro G H xs ds d Q s r e k
  have go : ∀ {a : Addr} {ys : List V} {es : List D}, SqL K H a ys → RpL K C G ys es → (intsOf es).map (fun bs => D.int bs.sum) = some d → rSum K [.ref a] H Q := by
    intro a ys es h r e
    cases hb : intsOf es with
    | none => rw [hb] at e; cases e
    | some bs => rw [hb] at e; cases e; exact ⟨a, bs, rfl, by rw [← r.intsV hb]; exact h, Grow.here s k (.int _)⟩
  cases r with
  | nil => cases e
  | cons h t =>
    cases t with
    | cons _ _ => cases h <;> cases e
    | nil =>
      cases h with
      | lst h r => exact go (.inl (.inl (s _ _ h))) r e
      | scr h r => exact go (Same.seq s h) r e
      | _ => cases e
def maxI : Int → List Int → Int
  | m, [] => m
  | m, x :: r => maxI (if x > m then x else m) r
def minI : Int → List Int → Int
  | m, [] => m
  | m, x :: r => minI (if x < m then x else m) r
theorem maxI_mem : ∀ (r : List Int) (m : Int), maxI m r ∈ m :: r ∧ ∀ y ∈ m :: r, y ≤ maxI m r
  | [], m => ⟨List.mem_cons_self, fun y h => by simp at h; subst h; exact Int.le_refl _⟩
  | x :: r, m => by
    obtain ⟨h1, h2⟩ := maxI_mem r (if x > m then x else m)
    refine ⟨?_, fun y hy => ?_⟩
    · show maxI (if x > m then x else m) r ∈ _
      rcases List.mem_cons.mp h1 with h | h
      · rw [h]; split <;> simp
      · exact List.mem_cons_of_mem _ (List.mem_cons_of_mem _ h)
    · have h3 := h2 (if x > m then x else m) List.mem_cons_self
      show y ≤ maxI (if x > m then x else m) r
      rcases List.mem_cons.mp hy with h | h
      · subst h; refine Int.le_trans ?_ h3; split <;> omega
      · rcases List.mem_cons.mp h with h | h
        · subst h; refine Int.le_trans ?_ h3; split <;> omega
        · exact h2 y (List.mem_cons_of_mem _ h)
theorem minI_mem : ∀ (r : List Int) (m : Int), minI m r ∈ m :: r ∧ ∀ y ∈ m :: r, minI m r ≤ y
  | [], m => ⟨List.mem_cons_self, fun y h => by simp at h; subst h; exact Int.le_refl _⟩
  | x :: r, m => by
    obtain ⟨h1, h2⟩ := minI_mem r (if x < m then x else m)
    refine ⟨?_, fun y hy => ?_⟩
    · show minI (if x < m then x else m) r ∈ _
      rcases List.mem_cons.mp h1 with h | h
      · rw [h]; split <;> simp
      · exact List.mem_cons_of_mem _ (List.mem_cons_of_mem _ h)
    · have h3 := h2 (if x < m then x else m) List.mem_cons_self
      show minI (if x < m then x else m) r ≤ y
      rcases List.mem_cons.mp hy with h | h
      · subst h; refine Int.le_trans h3 ?_; split <;> omega
      · rcases List.mem_cons.mp h with h | h
        · subst h; refine Int.le_trans h3 ?_; split <;> omega
        · exact h2 y (List.mem_cons_of_mem _ h)
def maxOf : List Int → Option D
  | [] => none
  | m :: r => some (.int (maxI m r))
def minOf : List Int → Option D
  | [] => none
  | m :: r => some (.int (minI m r))
def fMax : List D → Option D
  | [.int i, .int j] => some (.int (if j > i then j else i))
  | [.lst ds] => (intsOf ds).bind maxOf
  | [.tup ds] => (intsOf ds).bind maxOf
  | _ => none
def fMin : List D → Option D
  | [.int i, .int j] => some (.int (if j < i then j else i))
  | [.lst ds] => (intsOf ds).bind minOf
  | [.tup ds] => (intsOf ds).bind minOf
  | _ => none
def rMinS (K : PySem.W.Frag) : List V → Hp → VK → Prop := fun vs H Q => (∃ i j, vs = [.int i, .int j] ∧ Q (.int (if j < i then j else i)) H) ∨ ∃ (a : Addr) (n : Int) (ns : List Int), vs = [V.ref a] ∧ (SqL K H a ((n :: ns).map V.int) ∨ SqT K H a ((n :: ns).map V.int)) ∧ Q (.int (minI n ns)) H
def rMaxS (K : PySem.W.Frag) : List V → Hp → VK → Prop := fun vs H Q => (∃ i j, vs = [.int i, .int j] ∧ Q (.int (if j > i then j else i)) H) ∨ ∃ (a : Addr) (n : Int) (ns : List Int), vs = [V.ref a] ∧ (SqL K H a ((n :: ns).map V.int) ∨ SqT K H a ((n :: ns).map V.int)) ∧ Q (.int (maxI n ns)) H
theorem minOf_eq : ∀ (r : List Int) (m : Int), PySem.W.minOf m r = minI m r
  | [], m => rfl
  | x :: r, m => by
    have h := minOf_eq r (if x < m then x else m)
    show PySem.W.minOf (if (decide (x < m)) = true then x else m) r = _
    simp only [decide_eq_true_eq]
    exact h
theorem maxOf_eq : ∀ (r : List Int) (m : Int), PySem.W.maxOf m r = maxI m r
  | [], m => rfl
  | x :: r, m => by
    have h := maxOf_eq r (if x > m then x else m)
    show PySem.W.maxOf (if (decide (m < x)) = true then x else m) r = _
    simp only [decide_eq_true_eq]
    exact h
theorem holds_ints {h : Heap} : ∀ {ns : List Int} {us : List Value}, Vals (ns.map V.int) us → PySem.W.HoldAll h us ns
  | [], us, r => by cases r; exact ⟨[], .nil⟩
  | n :: ns, us, r => by
    cases r with
    | cons p q =>
      obtain ⟨t, rfl⟩ := p
      obtain ⟨as, z⟩ := holds_ints q
      exact ⟨_, .cons (.int n t) z⟩
theorem holds_int {h : Heap} {v : Value} {n : Int} (x : PySem.W.Holds h v n) : RelV (.int n) v := by
  obtain ⟨as, r⟩ := x
  cases (show Reads h v (.int n) as from r) with
  | int i t => exact ⟨t, rfl⟩
theorem cr_minS (hc : X.calm = true) (hu : X.A.units + 65 < cLine) : CallR X (.builtin "min") (rMinS X.K) := by
  intro pins s σ H xs us Q I r h
  rcases h with h | ⟨a, n, ns, rfl, h | h, q⟩
  · exact call_min2 hc pins s σ H xs us Q I r h
  · cases (Vals.ref1 r)
    obtain ⟨its, rv, hl, _⟩ := I.list h
    refine PySem.W.min_list_datum (I.ok.hd hc) hl.isList (x := n) (xs := ns) (by simpa using holds_ints rv) (by show X.A.units + 1 + 0 < _; omega) fun i v h' tk hi hv hk => ?_
    exact ⟨.int (minI n ns), H, I.kept hk, by rw [← minOf_eq]; exact holds_int hv, q⟩
  · cases (Vals.ref1 r)
    obtain ⟨its, rv, hl, _⟩ := I.tuple h
    refine PySem.W.min_tuple_datum (I.ok.hd hc) (show s.heap.IsTuple a its.toArray from hl) (x := n) (xs := ns) (by simpa using holds_ints rv) (by show X.A.units + 1 + 0 < _; omega) fun i v h' tk hi hv hk => ?_
    exact ⟨.int (minI n ns), H, I.kept hk, by rw [← minOf_eq]; exact holds_int hv, q⟩
theorem cr_maxS (hc : X.calm = true) (hu : X.A.units + 65 < cLine) : CallR X (.builtin "max") (rMaxS X.K) := by
  intro pins s σ H xs us Q I r h
  rcases h with h | ⟨a, n, ns, rfl, h | h, q⟩
  · exact call_max2 hc pins s σ H xs us Q I r h
  · cases (Vals.ref1 r)
    obtain ⟨its, rv, hl, _⟩ := I.list h
    refine PySem.W.max_list_datum (I.ok.hd hc) hl.isList (x := n) (xs := ns) (by simpa using holds_ints rv) (by show X.A.units + 1 + 0 < _; omega) fun i v h' tk hi hv hk => ?_
    exact ⟨.int (maxI n ns), H, I.kept hk, by rw [← maxOf_eq]; exact holds_int hv, q⟩
  · cases (Vals.ref1 r)
    obtain ⟨its, rv, hl, _⟩ := I.tuple h
    refine PySem.W.max_tuple_datum (I.ok.hd hc) (show s.heap.IsTuple a its.toArray from hl) (x := n) (xs := ns) (by simpa using holds_ints rv) (by show X.A.units + 1 + 0 < _; omega) fun i v h' tk hi hv hk => ?_
    exact ⟨.int (maxI n ns), H, I.kept hk, by rw [← maxOf_eq]; exact holds_int hv, q⟩
theorem vb_min : VB K C fMin (rMinS K) := by
  intro G H xs ds d Q s r e k
  have go : ∀ {a : Addr} {ys : List V} {es : List D}, (SqL K H a ys ∨ SqT K H a ys) → RpL K C G ys es → (intsOf es).bind minOf = some d → rMinS K [.ref a] H Q := by
    intro a ys es h r e
    cases hb : intsOf es with
    | none => rw [hb] at e; cases e
    | some bs =>
      rw [hb] at e
      cases bs with
      | nil => cases e
      | cons n ns => cases e; exact .inr ⟨a, n, ns, rfl, by rw [← r.intsV hb]; exact h, Grow.here s k (.int _)⟩
  cases r with
  | nil => cases e
  | cons h t =>
    cases t with
    | nil =>
      cases h with
      | lst h r => exact go (.inl (.inl (.inl (s _ _ h)))) r e
      | tup h r => exact go (.inr (same_seqT s h)) r e
      | _ => cases e
    | cons h2 t2 =>
      cases t2 with
      | cons _ _ => cases h <;> cases h2 <;> cases e
      | nil =>
        cases h with
        | int i =>
          cases h2 with
          | int j => cases e; exact .inl ⟨i, j, rfl, Grow.here s k (.int _)⟩
          | _ => cases e
        | _ => cases h2 <;> cases e
theorem vb_max : VB K C fMax (rMaxS K) := by
  intro G H xs ds d Q s r e k
  have go : ∀ {a : Addr} {ys : List V} {es : List D}, (SqL K H a ys ∨ SqT K H a ys) → RpL K C G ys es → (intsOf es).bind maxOf = some d → rMaxS K [.ref a] H Q := by
    intro a ys es h r e
    cases hb : intsOf es with
    | none => rw [hb] at e; cases e
    | some bs =>
      rw [hb] at e
      cases bs with
      | nil => cases e
      | cons n ns => cases e; exact .inr ⟨a, n, ns, rfl, by rw [← r.intsV hb]; exact h, Grow.here s k (.int _)⟩
  cases r with
  | nil => cases e
  | cons h t =>
    cases t with
    | nil =>
      cases h with
      | lst h r => exact go (.inl (.inl (.inl (s _ _ h)))) r e
      | tup h r => exact go (.inr (same_seqT s h)) r e
      | _ => cases e
    | cons h2 t2 =>
      cases t2 with
      | cons _ _ => cases h <;> cases h2 <;> cases e
      | nil =>
        cases h with
        | int i =>
          cases h2 with
          | int j => cases e; exact .inl ⟨i, j, rfl, Grow.here s k (.int _)⟩
          | _ => cases e
        | _ => cases h2 <;> cases e
/-- the lengths -/
theorem cr_lenS : CallR X (.builtin "len") (rLen X.K) := by
  intro pins s σ H xs us Q I r h
  rcases h with ⟨p, ys, e, hs, q⟩ | ⟨z, e, hz, q⟩
  · exact call_len_seq pins s σ H xs us Q I r ⟨p, ys, e, hs, q⟩
  · exact call_len_str pins s σ H xs us Q I r ⟨z, e, hz, q⟩
/-! ### isinstance -/
def isTy (T : String) : D → Option Bool
  | .non => kitB "NoneType" T
  | .bl _ => kitB "bool" T
  | .int _ => kitB "int" T
  | .str _ => kitB "str" T
  | .tup _ => kitB "tuple" T
  | .lst _ => kitB "list" T
  | .scr _ => kitB "list" T
  | .dic _ => kitB "dict" T
  | .ins _ _ => none
theorem sqT_ty {K : PySem.W.Frag} {H : Hp} {a : Addr} {xs : List V} (h : SqT K H a xs) : TyX K H (.ref a) (.type "tuple") := by
  rcases h with (h | ⟨o, h⟩) | ⟨o, its, n, h, c, _⟩
  · exact .base (.tup h)
  · exact .fTuple h
  · exact .kTuple h c
theorem sqL_ty {K : PySem.W.Frag} {H : Hp} {a : Addr} {xs : List V} (h : SqL K H a xs) : TyX K H (.ref a) (.type "list") := by
  rcases h with (h | ⟨o, h⟩) | ⟨o, its, n, h, c, _⟩
  · exact .base (.lst h)
  · exact .base (.frz h)
  · exact .kList h c
theorem isTy_ok {T : String} {G H : Hp} {v : V} {d : D} {b : Bool} (s : Same G H) (p : Rp K C G v d) (e : isTy T d = some b) : ∃ t, TyX K H v t ∧ PySem.W.kitOne K t (.type T) = some b := by
  cases p with
  | non => exact ⟨_, .base .non, kit_ty e⟩
  | bl b => exact ⟨_, .base (.bl b), kit_ty e⟩
  | int b => exact ⟨_, .base (.int b), kit_ty e⟩
  | str b _ => exact ⟨_, .base (.str b), kit_ty e⟩
  | tup h r => exact ⟨_, sqT_ty (same_seqT s h), kit_ty e⟩
  | lst h r => exact ⟨_, .base (.lst (s _ _ h)), kit_ty e⟩
  | scr h r => exact ⟨_, sqL_ty (Same.seq s h), kit_ty e⟩
  | dic h r => exact ⟨_, .base (.dK (s _ _ h)), kit_ty e⟩
  | ins h r => cases e
def dIs (f : D → Option Bool) (da : ENV → R D) : ENV → R D := dUn (fun d => (f d).map D.bl) da
/-- isinstance(a, T), T one class -/
theorem de_isA {x y : Str} {p p2 : Pos} {f : D → Option Bool} {cv : V} {cu : Value} (hf : ∀ {G H : Hp} {v : V} {d : D} {b : Bool}, Same G H → Rp X.K cc.C G v d → f d = some b → ∃ t, TyX X.K H v t ∧ PySem.W.kitOne X.K t cu = some b)
    (hc : PE X (.Name y p2) (tC cv)) (hk : ClsV cv cu) (hg : Gl X x) (hm : X.mg x = none) (hv : bootBuiltins x = some (.builtin "isinstance")) (ha : DE X cc a da)
    (hn : x ≠ "__name__" := by decide) (hdb : (x == ("__debug__" : Str)) = false := by decide) (he : starEach [a, .Name y p2] X.env = (false, eval a X.env) :: starEach [.Name y p2] X.env := by rfl)
    (hpl : (backTo pos (starEach [.Name y p2] X.env)).any (·.1) = false := by rfl) (hs2 : starEach [.Name y p2] X.env = (false, eval (.Name y p2) X.env) :: starEach [] X.env := by rfl) : DE X cc (.Call (.Name x p) [a, .Name y p2] [] pos) (dIs f da) := by
  refine PE.imp (pe_callB call_isi hg hm hv (pa_cons ha (pa_cons hc pa_nil hs2) he) hn hdb he hpl) fun σ H Q ⟨B, ρ, G, R0, h⟩ => ⟨B, ρ, G, R0, h.bind fun d1 ρ1 G1 H1 v e1 R1 p1 h1 => ?_⟩
  cases hb : f d1 with
  | none => simp only [hb, Option.map_none] at h1; exact h1.elim
  | some b =>
    simp only [hb, Option.map_some] at h1
    obtain ⟨t, ht, hko⟩ := hf R1.gk p1 hb
    exact ⟨v, cv, t, cu, b, rfl, hk, ht, hko, Post.fin h1 R1 (Ext.refl _ _) (Grow.refl R1.gk) (.bl b)⟩
theorem de_isT {T : String} {x y : Str} {p p2 : Pos} (hg : Gl X x) (hm : X.mg x = none) (hv : bootBuiltins x = some (.builtin "isinstance")) (hgy : Gl X y) (hmy : X.mg y = none) (hvy : bootBuiltins y = some (.type T)) (ha : DE X cc a da)
    (hn : x ≠ "__name__" := by decide) (hdb : (x == ("__debug__" : Str)) = false := by decide) (hn2 : y ≠ "__name__" := by decide) (hdb2 : (y == ("__debug__" : Str)) = false := by decide) (he : starEach [a, .Name y p2] X.env = (false, eval a X.env) :: starEach [.Name y p2] X.env := by rfl)
    (hpl : (backTo pos (starEach [.Name y p2] X.env)).any (·.1) = false := by rfl) (hs2 : starEach [.Name y p2] X.env = (false, eval (.Name y p2) X.env) :: starEach [] X.env := by rfl) : DE X cc (.Call (.Name x p) [a, .Name y p2] [] pos) (dIs (isTy T) da) :=
  de_isA (cv := .ty T) (cu := .type T) (fun s p e => isTy_ok s p e) (pe_bltn hgy hmy hvy rfl hn2 hdb2) (.ty T) hg hm hv ha hn hdb he hpl hs2
end
end Rf
set_option Elab.async false
set_option linter.all false
set_option maxRecDepth 100000
/-! Rf: fresh objects, targets, walks, comprehensions -/
namespace Rf
open PySem PySem.Spec L2
/-! ### fresh objects -/
def PostF (K : PySem.W.Frag) (cc : Cc) (B G : Hp) (σ : St) (Q : V → Hp → Prop) (r : R M) : Prop := match r with
  | .ok m ρ' => ∀ p G' H', Ext B G G' → Rl K cc B ρ' σ G' H' → Own K cc.C B G' H' p m → (∀ (i : Nat) (m' : M), ρ'[i]? = some (some (.ow m')) → σ[i]? ≠ some (some (.ref p))) → Q (.ref p) H'
  | .exc e ρ' => ∀ cl dd G' H', Ext B G G' → Rl K cc B ρ' σ G' H' → ERp K cc.C G' e cl dd → cc.W cl dd σ H'
  | .bot => False
theorem PostF.bind {α β : Type} {K : PySem.W.Frag} {cc : Cc} {V1 : Hp → β → α → Prop} {B G : Hp} {σ : St} {Q : V → Hp → Prop} {Q' : β → Hp → Prop} {r : R α} {f : α → ENV → R M}
    (h : PostF K cc B G σ Q (r.bind f))
    (k : ∀ d ρ1 G1 H1 x, Ext B G G1 → Rl K cc B ρ1 σ G1 H1 → V1 G1 x d → PostF K cc B G1 σ Q (f d ρ1) → Q' x H1) : Post K cc V1 B G σ Q' r := by
  cases r with
  | ok d ρ1 =>
    intro v G1 H1 e1 R1 p1
    refine k d ρ1 G1 H1 v e1 R1 p1 ?_
    have h : PostF K cc B G σ Q (f d ρ1) := h
    revert h
    cases f d ρ1 with
    | ok c ρ2 => exact fun h v G' H' e R' p => h v G' H' (e1.trans e) R' p
    | exc c ρ2 => exact fun h cl dd G' H' e R' p => h cl dd G' H' (e1.trans e) R' p
    | bot => exact id
  | exc e ρ1 => exact h
  | bot => exact h
theorem Rl.notAt {K : PySem.W.Frag} {cc : Cc} {B : Hp} {ρ : ENV} {σ : St} {G H : Hp} {p : Addr} (r : Rl K cc B ρ σ G H) (h : H p = none) (i : Nat) (m : M) (e : ρ[i]? = some (some (.ow m))) : σ[i]? ≠ some (some (.ref p)) := fun z => by
  obtain ⟨q, hq, o⟩ := r.ow i m e
  rw [z] at hq; cases hq
  obtain ⟨x, hx, _⟩ := o.at_
  rw [h] at hx; cases hx
/-- the new object is there -/
theorem PostF.fin {K : PySem.W.Frag} {cc : Cc} {B G : Hp} {σ : St} {Q : V → Hp → Prop} {m : M} {ρ1 : ENV} {G1 H1 : Hp} {p : Addr} {o : HO}
    (h : PostF K cc B G σ Q (.ok m ρ1)) (R1 : Rl K cc B ρ1 σ G1 H1) (e : Ext B G G1) (hp : H1 p = none) (hm : HoldsM K cc.C G1 o m) : Q (.ref p) (upd H1 p o) := by
  have g := Grow.newO (o := o) R1.gk hp
  exact h p G1 _ e (R1.grow g) ⟨R1.bk.free hp, R1.gk.free hp, o, upd_same, hm⟩ fun i m' q => R1.notAt hp i m' q
def rF (K : PySem.W.Frag) (cc : Cc) (den : ENV → R M) : TE := fun σ H Q => ∃ B ρ G, Rl K cc B ρ σ G H ∧ PostF K cc B G σ Q (den ρ)
def DF (X : Cx) (cc : Cc) (e : Expr) (den : ENV → R M) : Prop := PE X e (rF X.K cc den)
/-- frozen at once -/
def frz (r : R M) : R D := r.bind fun m ρ => .ok m.toD ρ
section
variable {X : Cx} {cc : Cc} {a b c e : Expr} {da db dc : ENV → R D} {pos : Pos} {es : List Expr} {dr : ENV → R (List D)} {fa fb : ENV → R M}
theorem de_of (h : DF X cc e fa) : DE X cc e (fun ρ => frz (fa ρ)) := by
  refine PE.imp h fun σ H Q ⟨B, ρ, G, R0, h⟩ => ⟨B, ρ, G, R0, ?_⟩
  dsimp only [frz] at h
  cases hf : fa ρ with
  | ok m ρ1 =>
    rw [hf] at h
    intro p G1 H1 e1 R1 o nf
    obtain ⟨x, hx, hm⟩ := o.at_
    have sG : Same G1 (upd G1 p x) := same_upd o.ng
    refine h (.ref p) (upd G1 p x) H1 (e1.trans ⟨sG, fun a u q => ?_⟩) ⟨R1.bk, fun b u q => ?_, R1.ln, fun i d q => ?_, fun i m' q => ?_, R1.df, R1.pa⟩ (HoldsM.rp upd_same (hm.mono sG))
    · by_cases z : a = p
      · subst z; exact .inr o.nb
      · rw [upd_ne z] at q; exact .inl q
    · by_cases z : b = p
      · subst z; rw [upd_same] at q; cases q; exact hx
      · rw [upd_ne z] at q; exact R1.gk b u q
    · obtain ⟨v, h1, h2⟩ := R1.sh i d q
      exact ⟨v, h1, h2.mono sG⟩
    · obtain ⟨q', h1, o'⟩ := R1.ow i m' q
      have ne : q' ≠ p := fun z => by subst z; exact nf i m' q h1
      obtain ⟨y, hy, hm'⟩ := o'.at_
      exact ⟨q', h1, o'.nb, by rw [upd_ne ne]; exact o'.ng, y, hy, hm'.mono sG⟩
  | exc x ρ1 => rw [hf] at h; exact h
  | bot => rw [hf] at h; exact h.elim
def ite_postF {K : PySem.W.Frag} {B G : Hp} {σ : St} {Q : V → Hp → Prop} {p : Prop} [Decidable p] {r : R M} (h : PostF K cc B G σ Q (if p then r else .bot)) : p ∧ PostF K cc B G σ Q r := by
  by_cases q : p
  · rw [if_pos q] at h; exact ⟨q, h⟩
  · rw [if_neg q] at h; exact h.elim
def fLst (dr : ENV → R (List D)) : ENV → R M := fun ρ => (dr ρ).bind fun xs ρ1 => if xs.length ≤ sizeLine then .ok (.lst xs) ρ1 else .bot
theorem df_list (h : DA X cc es dr) : DF X cc (.List es pos) (fLst dr) := by
  refine PE.imp (pe_lst h) fun σ H Q ⟨B, ρ, G, R0, h⟩ => ⟨B, ρ, G, R0, h.bind fun ds ρ1 G1 H1 xs e1 R1 p1 h1 => ?_⟩
  obtain ⟨hz, h1⟩ := ite_postF h1
  exact ⟨by rw [p1.length]; exact hz, fun p hp => h1.fin R1 (Ext.refl _ _) hp ⟨xs, rfl, p1⟩⟩
/-- list(x), as a fresh one -/
def fListF (dr : ENV → R D) : ENV → R M := fun ρ => (dr ρ).bind fun x ρ1 => match x with
  | .lst ds => .ok (.lst ds) ρ1
  | .scr ds => .ok (.lst ds) ρ1
  | .tup ds => .ok (.lst ds) ρ1
  | _ => .bot
theorem df_listOf {x : Str} {p : Pos} (hg : Gl X x) (hm : X.mg x = none) (hv : bootBuiltins x = some (.type "list")) (ha : DE X cc e da)
    (hn : x ≠ "__name__" := by decide) (hdb : (x == ("__debug__" : Str)) = false := by decide) (he : starEach [e] X.env = (false, eval e X.env) :: starEach [] X.env := by rfl) (hpl : (backTo pos (starEach [] X.env)).any (·.1) = false := by rfl) :
    DF X cc (.Call (.Name x p) [e] [] pos) (fListF da) := by
  refine PE.imp (pe_callTy call_list_of hg hm hv (pa_cons ha pa_nil he) hn hdb he hpl) fun σ H Q ⟨B, ρ, G, R0, h⟩ => ⟨B, ρ, G, R0, h.bind fun d1 ρ1 G1 H1 x e1 R1 p1 h1 => ?_⟩
  cases p1 with
  | lst h r => exact ⟨_, _, rfl, .inl (.inl (.inl (R1.gk _ _ h))), fun l hl => h1.fin R1 (Ext.refl _ _) hl ⟨_, rfl, r⟩⟩
  | scr h r => exact ⟨_, _, rfl, .inl (Same.seq R1.gk h), fun l hl => h1.fin R1 (Ext.refl _ _) hl ⟨_, rfl, r⟩⟩
  | tup h r => exact ⟨_, _, rfl, .inr (same_seqT R1.gk h), fun l hl => h1.fin R1 (Ext.refl _ _) hl ⟨_, rfl, r⟩⟩
  | _ => exact h1.elim
/-- a + b of lists, as a fresh one -/
def fAddL (da db : ENV → R D) : ENV → R M := fun ρ => (da ρ).bind fun x ρ1 => (db ρ1).bind fun y ρ2 => match x, y with
  | .lst a, .lst b => if a.length + b.length ≤ sizeLine then .ok (.lst (a ++ b)) ρ2 else .bot
  | _, _ => .bot
theorem df_add (ha : DE X cc a da) (hb : DE X cc b db) : DF X cc (.BinOp a .Add b pos) (fAddL da db) := by
  refine PE.imp (pe_op op_cat ha hb) fun σ H Q ⟨B, ρ, G, R0, h⟩ => ⟨B, ρ, G, R0, h.bind fun d1 ρ1 G1 H1 x e1 R1 p1 h1 => ⟨B, ρ1, G1, R1, h1.bind fun d2 ρ2 G2 H2 y e2 R2 p2 h2 => ?_⟩⟩
  have p1 := p1.mono e2.gg
  cases p1 with
  | lst h r =>
    cases p2 with
    | lst h' r' =>
      obtain ⟨hz, h2⟩ := ite_postF h2
      exact ⟨_, _, _, _, rfl, rfl, R2.gk _ _ h, R2.gk _ _ h', by rw [r.length, r'.length]; exact hz, fun p hp => h2.fin R2 (Ext.refl _ _) hp ⟨_, rfl, r.append r'⟩⟩
    | _ => exact h2.elim
  | _ => cases d2 <;> exact h2.elim
end

/-! ### targets -/
/-- other slots are as they were -/
def Oth (sl : List Nat) (σ σ' : St) : Prop := σ'.length = σ.length ∧ ∀ j, j ∉ sl → σ'[j]? = σ[j]?
def rG (K : PySem.W.Frag) (cc : Cc) (sl : List Nat) (gd : D → ENV → Option ENV) : TG := fun v σ H Q => ∃ B ρ G d ρ', Rl K cc B ρ σ G H ∧ Rp K cc.C G v d ∧ gd d ρ = some ρ' ∧ ∀ σ', Rl K cc B ρ' σ' G H → Oth sl σ σ' → Q σ' H
def rGs (K : PySem.W.Frag) (cc : Cc) (sl : List Nat) (gd : List D → ENV → Option ENV) : TGs := fun vs σ H Q => ∃ B ρ G ds ρ', Rl K cc B ρ σ G H ∧ RpL K cc.C G vs ds ∧ gd ds ρ = some ρ' ∧ ∀ σ', Rl K cc B ρ' σ' G H → Oth sl σ σ' → Q σ' H
def DG (X : Cx) (cc : Cc) (tg : Expr) (sl : List Nat) (gd : D → ENV → Option ENV) : Prop := PG X tg (rG X.K cc sl gd)
def DGs (X : Cx) (cc : Cc) (tgs : List Expr) (sl : List Nat) (gd : List D → ENV → Option ENV) : Prop := PGs X tgs (rGs X.K cc sl gd)
theorem PG.imp {X : Cx} {e : Expr} {t t' : TG} (h : PG X e t) (k : ∀ v σ H Q, t' v σ H Q → t v σ H Q) : PG X e t' := ⟨fun pins s σ H v u Q I r q => h.run pins s σ H v u Q I r (k _ _ _ _ q)⟩
theorem PGs.imp {X : Cx} {e : List Expr} {t t' : TGs} (h : PGs X e t) (k : ∀ v σ H Q, t' v σ H Q → t v σ H Q) : PGs X e t' := ⟨fun pins s σ H v u Q I r q => h.run pins s σ H v u Q I r (k _ _ _ _ q)⟩
def gSet (i : Nat) : D → ENV → Option ENV := fun d ρ => if i < ρ.length then some (ρ.set i (some (.sh d))) else none
theorem Rl.store {K : PySem.W.Frag} {cc : Cc} {B : Hp} {ρ : ENV} {σ : St} {G H : Hp} {i : Nat} {v : V} {d : D} (r : Rl K cc B ρ σ G H) (hi : i < ρ.length) (hp : i ∉ cc.pr) (p : Rp K cc.C G v d) : Rl K cc B (ρ.set i (some (.sh d))) (σ.set i (some v)) G H := by
  have hi' : i < σ.length := by rw [r.ln]; exact hi
  have old : ∀ (j : Nat) (m : M), (ρ.set i (some (.sh d)))[j]? = some (some (.ow m)) → j ≠ i ∧ ρ[j]? = some (some (.ow m)) := fun j m q => by
    by_cases h : j = i
    · subst h; rw [List.getElem?_set_self hi] at q; cases q
    · rw [List.getElem?_set_ne (Ne.symm h)] at q; exact ⟨h, q⟩
  refine ⟨r.bk, r.gk, by rw [List.length_set, List.length_set]; exact r.ln, fun j e q => ?_, fun j m q => ?_, fun j k m m' q q1 q2 q3 q4 => ?_, fun j hj => ?_⟩
  · by_cases h : j = i
    · subst h
      rw [List.getElem?_set_self hi] at q; cases q
      exact ⟨v, by rw [List.getElem?_set_self hi'], p⟩
    · rw [List.getElem?_set_ne (Ne.symm h)] at q
      obtain ⟨v', h1, h2⟩ := r.sh j e q
      exact ⟨v', by rw [List.getElem?_set_ne (Ne.symm h)]; exact h1, h2⟩
  · obtain ⟨h, q⟩ := old j m q
    obtain ⟨p', h1, o⟩ := r.ow j m q
    exact ⟨p', by rw [List.getElem?_set_ne (Ne.symm h)]; exact h1, o⟩
  · obtain ⟨h, q1⟩ := old j m q1
    obtain ⟨h', q2⟩ := old k m' q2
    rw [List.getElem?_set_ne (Ne.symm h)] at q3
    rw [List.getElem?_set_ne (Ne.symm h')] at q4
    exact r.df j k m m' q q1 q2 q3 q4
  · have h : j ≠ i := fun z => by subst z; exact hp hj
    rw [List.getElem?_set_ne (Ne.symm h)]
    exact r.pa j hj
theorem Rl.storeO {K : PySem.W.Frag} {cc : Cc} {B : Hp} {ρ : ENV} {σ : St} {G H : Hp} {i : Nat} {p : Addr} {m : M} (r : Rl K cc B ρ σ G H) (hi : i < ρ.length) (hp : i ∉ cc.pr) (o : Own K cc.C B G H p m)
    (nf : ∀ (i : Nat) (m' : M), ρ[i]? = some (some (.ow m')) → σ[i]? ≠ some (some (.ref p))) : Rl K cc B (ρ.set i (some (.ow m))) (σ.set i (some (.ref p))) G H := by
  have hi' : i < σ.length := by rw [r.ln]; exact hi
  refine ⟨r.bk, r.gk, by rw [List.length_set, List.length_set]; exact r.ln, fun j e q => ?_, fun j m' q => ?_, fun j k m1 m2 q q1 q2 q3 q4 => ?_, fun j hj => ?_⟩
  · by_cases h : j = i
    · subst h; rw [List.getElem?_set_self hi] at q; cases q
    · rw [List.getElem?_set_ne (Ne.symm h)] at q
      obtain ⟨v', h1, h2⟩ := r.sh j e q
      exact ⟨v', by rw [List.getElem?_set_ne (Ne.symm h)]; exact h1, h2⟩
  · by_cases h : j = i
    · subst h
      rw [List.getElem?_set_self hi] at q; cases q
      exact ⟨p, by rw [List.getElem?_set_self hi'], o⟩
    · rw [List.getElem?_set_ne (Ne.symm h)] at q
      obtain ⟨p', h1, o'⟩ := r.ow j m' q
      exact ⟨p', by rw [List.getElem?_set_ne (Ne.symm h)]; exact h1, o'⟩
  · by_cases h : j = i
    · by_cases h' : k = i
      · exact h.trans h'.symm
      · subst h
        rw [List.getElem?_set_self hi'] at q3; cases q3
        rw [List.getElem?_set_ne (Ne.symm h')] at q2 q4
        exact absurd q4 (nf k m2 q2)
    · rw [List.getElem?_set_ne (Ne.symm h)] at q1 q3
      by_cases h' : k = i
      · subst h'
        rw [List.getElem?_set_self hi'] at q4; cases q4
        exact absurd q3 (nf j m1 q1)
      · rw [List.getElem?_set_ne (Ne.symm h')] at q2 q4
        exact r.df j k m1 m2 q q1 q2 q3 q4
  · have h : j ≠ i := fun z => by subst z; exact hp hj
    rw [List.getElem?_set_ne (Ne.symm h)]
    exact r.pa j hj
section
variable {X : Cx} {cc : Cc} {pos : Pos}
theorem np {cc : Cc} {i : Nat} (h : cc.pr.contains i = false) : i ∉ cc.pr := fun z => by
  have := List.contains_iff_mem.mpr z
  rw [h] at this; cases this
theorem dg_name {i : Nat} {x : Str} (hN : X.N.Nodup) (hi : X.N[i]? = some x) (hx : Loc X.env.scope x) (hp : cc.pr.contains i = false) (hf : X.fn x = true ∨ X.env.scope.names.lookup x = some .local := by first | exact .inl rfl | exact .inr rfl | assumption) : DG X cc (.Name x pos) [i] (gSet i) := by
  refine PG.imp (pg_name hN hi hx hf) fun v σ H Q ⟨B, ρ, G, d, ρ', R0, p, e, k⟩ => ?_
  unfold gSet at e
  split at e
  · rename_i h; cases e; exact k _ (R0.store h (np hp) p) ⟨by rw [List.length_set], fun j hj => List.getElem?_set_ne (fun z => hj (by simp [z]))⟩
  · cases e
def gsNil : List D → ENV → Option ENV := fun ds ρ => match ds with
  | [] => some ρ
  | _ => none
def gsCons (g : D → ENV → Option ENV) (gs : List D → ENV → Option ENV) : List D → ENV → Option ENV := fun ds ρ => match ds with
  | d :: r => (g d ρ).bind fun ρ1 => gs r ρ1
  | _ => none
theorem dgs_nil : DGs X cc [] [] gsNil := PGs.imp pgs_nil fun v σ H Q ⟨B, ρ, G, d, ρ', R0, p, e, k⟩ => by
  cases p with
  | nil => cases e; exact ⟨rfl, k σ R0 ⟨rfl, fun _ _ => rfl⟩⟩
  | cons _ _ => cases e
theorem dgs_cons {e : Expr} {es : List Expr} {s1 s2 : List Nat} {g : D → ENV → Option ENV} {gs : List D → ENV → Option ENV} (h1 : DG X cc e s1 g) (h2 : DGs X cc es s2 gs)
    (hs : (assignEach (e :: es) X.env).map (·.2) = assign e X.env :: (assignEach es X.env).map (·.2) := by rfl) : DGs X cc (e :: es) (s1 ++ s2) (gsCons g gs) := PGs.imp (pgs_cons h1 h2 hs) fun v σ H Q ⟨B, ρ, G, d, ρ', R0, p, e, k⟩ => by
  cases p with
  | nil => cases e
  | @cons v d vs ds p r =>
    cases hg : g d ρ with
    | none => simp only [gsCons, hg, Option.bind_none] at e; cases e
    | some ρ1 =>
      simp only [gsCons, hg, Option.bind_some] at e
      exact ⟨_, _, rfl, B, ρ, G, d, ρ1, R0, p, hg, fun σ' R1 o1 => ⟨B, ρ1, G, ds, ρ', R1, r, e, fun σ'' R2 o2 => k σ'' R2 ⟨o2.1.trans o1.1, fun j hj => (o2.2 j fun z => hj (List.mem_append_right _ z)).trans (o1.2 j fun z => hj (List.mem_append_left _ z))⟩⟩⟩
/-- (a, b, ..) = a tuple or a list of that length -/
def gSeq (n : Nat) (gs : List D → ENV → Option ENV) : D → ENV → Option ENV := fun d ρ => match d with
  | .tup ds => if ds.length = n then gs ds ρ else none
  | .lst ds => if ds.length = n then gs ds ρ else none
  | _ => none
def tSq (K : PySem.W.Frag) (n : Nat) (t : TGs) : TG := fun v σ H Q => ∃ a xs, v = .ref a ∧ (SqT K H a xs ∨ SqL K H a xs) ∧ xs.length = n ∧ t xs σ H Q
theorem pg_sq {es : List Expr} {k : Nat} {t : TGs} {n : Nat} (hc : X.calm = true) (h : PGs X es t)
    (hn : (assignEach es X.env).length = n := by rfl) (hst : (assignEach es X.env).findIdx? (·.1) = none := by rfl) : PG X (.Tuple es k pos) (tSq X.K n t) := by
  refine ⟨fun pins s σ H v u Q I r ⟨a, xs, e1, hq, hl, hw⟩ => ?_⟩
  rcases hq with hq | hq
  · exact (pg_tup hc h hn hst).run pins s σ H v u Q I r ⟨a, xs, e1, hq, hl, hw⟩
  · exact (pg_lst hc h hn hst).run pins s σ H v u Q I r ⟨a, xs, e1, hq, hl, hw⟩
theorem dg_seq {es : List Expr} {k n : Nat} {sl : List Nat} {gs : List D → ENV → Option ENV} (hc : X.calm = true) (h : DGs X cc es sl gs) (hn : (assignEach es X.env).length = n := by rfl) (hst : (assignEach es X.env).findIdx? (·.1) = none := by rfl) : DG X cc (.Tuple es k pos) sl (gSeq n gs) := by
  refine PG.imp (pg_sq hc h hn hst) fun v σ H Q ⟨B, ρ, G, d, ρ', R0, p, e, k⟩ => ?_
  cases p with
  | tup h r =>
    dsimp only [gSeq] at e
    split at e
    · rename_i hl; exact ⟨_, _, rfl, .inl (same_seqT R0.gk h), by rw [r.length]; exact hl, B, ρ, G, _, ρ', R0, r, e, k⟩
    · cases e
  | lst h r =>
    dsimp only [gSeq] at e
    split at e
    · rename_i hl; exact ⟨_, _, rfl, .inr (.inl (.inl (R0.gk _ _ h))), by rw [r.length]; exact hl, B, ρ, G, _, ρ', R0, r, e, k⟩
    · cases e
  | _ => cases e
end

/-! ### walks -/
structure Wk (K : PySem.W.Frag) (C : Nat → Addr) (G : Hp) (J : It) (ds : List D) : Prop where
  ex : ∃ (g : Hp → Prop) (Y : Nat → Hp → V → Hp → Prop), Walk J ds.length g Y ∧ (∀ G2 H2, Same G G2 → Same G2 H2 → g H2) ∧
    ∀ (i : Nat) G2 H2 x H3, i < ds.length → Same G G2 → Same G2 H2 → Y i H2 x H3 → ∃ d G3, ds[i]? = some d ∧ Grow G2 H2 G3 H3 ∧ Rp K C G3 x d
def rI (K : PySem.W.Frag) (cc : Cc) (den : ENV → R (List D)) : TI := fun σ H Q => ∃ B ρ G, Rl K cc B ρ σ G H ∧ Post K cc (fun G' J ds => Wk K cc.C G' J ds) B G σ Q (den ρ)
def DI (X : Cx) (cc : Cc) (tg iter : Expr) (den : ENV → R (List D)) : Prop := PI X tg iter (rI X.K cc den)
theorem PI.imp {X : Cx} {tg e : Expr} {t t' : TI} (h : PI X tg e t) (k : ∀ σ H Q, t' σ H Q → t σ H Q) : PI X tg e t' := ⟨fun pins s σ H Q I q => h.run pins s σ H Q I (k _ _ _ q)⟩
/-- the items of a list or a tuple -/
def items : D → Option (List D)
  | .lst ds => some ds
  | .scr ds => some ds
  | .tup ds => some ds
  | _ => none
def dItems (da : ENV → R D) : ENV → R (List D) := fun ρ => (da ρ).bind fun x ρ1 => R.of (items x) ρ1
def iSq (K : PySem.W.Frag) (tl : TE) : TI := fun σ H R => tl σ H fun x H1 => ∃ a, x = .ref a ∧ (((∃ xs, SqL K H1 a xs) ∧ R (Itl K a) H1) ∨ ((∃ xs, SqT K H1 a xs) ∧ R (Itt K a) H1))
section
variable {X : Cx} {cc : Cc} {tg a b e : Expr} {da db : ENV → R D} {pos : Pos}
theorem pi_sq {l : Expr} {tl : TE} (hl : PE X l tl) : PI X tg l (iSq X.K tl) := by
  refine ⟨fun pins s σ H R I h => ?_⟩
  refine thn (hl.run pins s σ H _ I h) fun v s1 ⟨x, H1, I1, r1, q1⟩ => ?_
  obtain ⟨a, e, q⟩ := q1
  subst e
  cases r1
  rcases q with ⟨⟨xs, hq⟩, q⟩ | ⟨⟨xs, hq⟩, q⟩
  · obtain ⟨its, rv, p, hz⟩ := I1.list hq
    refine wpAny_pyIter_list p.isList ?_
    refine ⟨s1.heap.objs.size, [s1.heap.objs.size], _, _, H1, rfl, I1.kept (t' := s1.toks) fun b o e => Heap.get?_push_of_some _ e, turn_list a _, ⟨_, Heap.get?_push_size _ rfl, rfl, rfl⟩, fun b hb => ?_, q⟩
    have e : b = s1.heap.objs.size := by simpa using hb
    subst e
    exact I1.fpOk (Nat.le_refl _) (I1.hok.fresh (Nat.le_refl _))
  · obtain ⟨its, rv, p, hz⟩ := I1.tuple hq
    refine wpAny_pyIter_tuple (show s1.heap.IsTuple a its.toArray from p) ?_
    refine ⟨s1.heap.objs.size, [s1.heap.objs.size], _, _, H1, rfl, I1.kept (t' := s1.toks) fun b o e => Heap.get?_push_of_some _ e, turn_tuple a _, ⟨_, Heap.get?_push_size _ rfl, rfl, rfl⟩, fun b hb => ?_, q⟩
    have e : b = s1.heap.objs.size := by simpa using hb
    subst e
    exact I1.fpOk (Nat.le_refl _) (I1.hok.fresh (Nat.le_refl _))
theorem wk_list {K : PySem.W.Frag} {C : Nat → Addr} {G : Hp} {a : Addr} {xs : List V} {ds : List D} (h : SqL K G a xs) (r : RpL K C G xs ds) : Wk K C G (Itl K a) ds := by
  refine ⟨_, _, by rw [← r.length]; exact walk_list (xs := xs), fun G2 H2 s s2 => Same.seq s2 (Same.seq s h), fun i G2 H2 x H3 hi s s2 y => ?_⟩
  obtain ⟨rfl, y⟩ := y
  obtain ⟨d, hd, p⟩ := r.getV y
  exact ⟨d, G2, hd, Grow.refl s2, p.mono s⟩
theorem wk_tup {K : PySem.W.Frag} {C : Nat → Addr} {G : Hp} {a : Addr} {xs : List V} {ds : List D} (h : SqT K G a xs) (r : RpL K C G xs ds) : Wk K C G (Itt K a) ds := by
  refine ⟨_, _, by rw [← r.length]; exact walk_tup (xs := xs), fun G2 H2 s s2 => same_seqT s2 (same_seqT s h), fun i G2 H2 x H3 hi s s2 y => ?_⟩
  obtain ⟨rfl, y⟩ := y
  obtain ⟨d, hd, p⟩ := r.getV y
  exact ⟨d, G2, hd, Grow.refl s2, p.mono s⟩
theorem di_seq (ha : DE X cc a da) : DI X cc tg a (dItems da) := by
  refine PI.imp (pi_sq ha) fun σ H Q ⟨B, ρ, G, R0, h⟩ => ⟨B, ρ, G, R0, Post.bind (V2 := fun G' J ds => Wk X.K cc.C G' J ds) h fun d1 ρ1 G1 H1 x e1 R1 p1 h1 => ?_⟩
  cases p1 with
  | lst h r => exact ⟨_, rfl, .inl ⟨⟨_, .inl (.inl (R1.gk _ _ h))⟩, h1 _ G1 H1 (Ext.refl _ _) R1 (wk_list (.inl (.inl h)) r)⟩⟩
  | scr h r => exact ⟨_, rfl, .inl ⟨⟨_, Same.seq R1.gk h⟩, h1 _ G1 H1 (Ext.refl _ _) R1 (wk_list h r)⟩⟩
  | tup h r => exact ⟨_, rfl, .inr ⟨⟨_, same_seqT R1.gk h⟩, h1 _ G1 H1 (Ext.refl _ _) R1 (wk_tup h r)⟩⟩
  | _ => exact h1.elim
def rng (lo hi : Int) : List D := (List.range (hi - lo).toNat).map fun i => .int (lo + (i : Nat))
def rngOk (i : Int) : Bool := decide (-(2 ^ 62) ≤ i) && decide (i < 2 ^ 62)
def dRng1 (da : ENV → R D) : ENV → R (List D) := fun ρ => (da ρ).bind fun x ρ1 => match x with
  | .int j => if rngOk j = true then .ok (rng 0 j) ρ1 else .bot
  | _ => .bot
def dRng2 (da db : ENV → R D) : ENV → R (List D) := fun ρ => (da ρ).bind fun x ρ1 => (db ρ1).bind fun y ρ2 => match x, y with
  | .int i, .int j => if rngOk i = true ∧ rngOk j = true then .ok (rng i j) ρ2 else .bot
  | _, _ => .bot
theorem wk_range {K : PySem.W.Frag} {C : Nat → Addr} {G : Hp} (lo hi : Int) : Wk K C G (Itr lo (hi - lo).toNat) (rng lo hi) := by
  have hl : (rng lo hi).length = (hi - lo).toNat := by unfold rng; rw [List.length_map, List.length_range]
  refine ⟨_, _, by rw [hl]; exact walk_range, fun _ _ _ _ => trivial, fun i G2 H2 x H3 hi' s s2 y => ?_⟩
  obtain ⟨rfl, rfl⟩ := y
  rw [hl] at hi'
  exact ⟨.int (lo + (i : Nat)), G2, by unfold rng; rw [List.getElem?_map, List.getElem?_range hi']; rfl, Grow.refl s2, .int _⟩
theorem rngOk_of {i : Int} (h : rngOk i = true) : -(2 ^ 62) ≤ i ∧ i < 2 ^ 62 := by
  unfold rngOk at h
  simp only [Bool.and_eq_true, decide_eq_true_eq] at h
  exact h
theorem di_rng1 {p : Pos} (hg : Gl X "range") (hm : X.mg "range" = none) (ha : DE X cc a da) (hs : starEach [a] X.env = [(false, eval a X.env)] := by rfl) (hs2 : starEach [a] X.env = (false, eval a X.env) :: starEach [] X.env := by rfl) : DI X cc tg (.Call (.Name "range" p) [a] [] pos) (dRng1 da) := by
  refine PI.imp (pi_range1 hg hm (pa_cons ha pa_nil hs2) hs) fun σ H Q ⟨B, ρ, G, R0, h⟩ => ⟨B, ρ, G, R0, Post.bind (V2 := fun G' J ds => Wk X.K cc.C G' J ds) h fun d1 ρ1 G1 H1 x e1 R1 p1 h1 => ?_⟩
  cases p1 with
  | int j =>
    obtain ⟨hz, h1⟩ := ite_post h1
    obtain ⟨z1, z2⟩ := rngOk_of hz
    have w := wk_range (K := X.K) (C := cc.C) (G := G1) 0 j
    rw [Int.sub_zero] at w
    exact ⟨j, rfl, z1, z2, h1 _ G1 H1 (Ext.refl _ _) R1 w⟩
  | _ => exact h1.elim
theorem di_rng2 {p : Pos} (hg : Gl X "range") (hm : X.mg "range" = none) (ha : DE X cc a da) (hb : DE X cc b db) (hs : starEach [a, b] X.env = [(false, eval a X.env), (false, eval b X.env)] := by rfl) (hs2 : starEach [b] X.env = [(false, eval b X.env)] := by rfl)
    (hs3 : starEach [a, b] X.env = (false, eval a X.env) :: starEach [b] X.env := by rfl) (hs4 : starEach [b] X.env = (false, eval b X.env) :: starEach [] X.env := by rfl) : DI X cc tg (.Call (.Name "range" p) [a, b] [] pos) (dRng2 da db) := by
  refine PI.imp (pi_range2 hg hm (pa_cons ha (pa_cons hb pa_nil hs4) hs3) hs hs2) fun σ H Q ⟨B, ρ, G, R0, h⟩ => ⟨B, ρ, G, R0, Post.bind (V2 := fun G' J ds => Wk X.K cc.C G' J ds) h fun d1 ρ1 G1 H1 x e1 R1 p1 h1 => ⟨B, ρ1, G1, R1, Post.bind (V2 := fun G' J ds => Wk X.K cc.C G' J ds) h1 fun d2 ρ2 G2 H2 y e2 R2 p2 h2 => ?_⟩⟩
  cases p1 with
  | int i =>
    cases p2 with
    | int j =>
      obtain ⟨⟨hz, hz'⟩, h2⟩ := ite_post h2
      obtain ⟨z1, z2⟩ := rngOk_of hz
      obtain ⟨z3, z4⟩ := rngOk_of hz'
      exact ⟨i, j, rfl, ⟨z1, z2, z3, z4⟩, h2 _ G2 H2 (Ext.refl _ _) R2 (wk_range i j)⟩
    | _ => exact h2.elim
  | _ => cases d2 <;> exact h2.elim
end
end Rf
set_option Elab.async false
set_option linter.all false
set_option maxRecDepth 100000
/-! Rf: comprehensions -/
namespace Rf
open PySem PySem.Spec L2
def wipeE (ρ : ENV) : List Nat → ENV
  | [] => ρ
  | v :: vs => (wipeE ρ vs).set v none
/-- the block's own slots as they were outside -/
def back (ρ : ENV) : List Nat → ENV → ENV
  | [], ρ' => ρ'
  | v :: vs, ρ' => (back ρ vs ρ').set v (match ρ[v]? with | some (some (.sh d)) => some (.sh d) | _ => none)
def noOwn (ρ : ENV) (vs : List Nat) : Bool := vs.all fun v => match ρ[v]? with | some (some (.ow _)) => false | _ => true
def compL (g : D → ENV → Option ENV) (tt : ENV → R Bool) (te : ENV → R D) (vs : List Nat) : List D → List D → ENV → R (List D)
  | [], acc, ρ => .ok acc ρ
  | d :: ds, acc, ρ => match g d (wipeE ρ vs) with
    | none => .bot
    | some ρ1 => match tt ρ1 with
      | .ok true ρ2 => match te ρ2 with
        | .ok y ρ3 => if acc.length < sizeLine then compL g tt te vs ds (acc ++ [y]) ρ3 else .bot
        | _ => .bot
      | .ok false ρ2 => compL g tt te vs ds acc ρ2
      | _ => .bot
def fLc (di : ENV → R (List D)) (g : D → ENV → Option ENV) (tt : ENV → R Bool) (te : ENV → R D) (vs : List Nat) : ENV → R M := fun ρ => (di ρ).bind fun ds ρ1 => match noOwn ρ1 vs, compL g tt te vs ds [] ρ1 with
  | true, .ok acc ρ2 => .ok (.lst acc) (back ρ1 vs ρ2)
  | _, _ => .bot
theorem wipeE_length (ρ : ENV) : ∀ vs : List Nat, (wipeE ρ vs).length = ρ.length
  | [] => rfl
  | v :: vs => by unfold wipeE; rw [List.length_set, wipeE_length ρ vs]
theorem back_length (ρ ρ' : ENV) : ∀ vs : List Nat, (back ρ vs ρ').length = ρ'.length
  | [] => rfl
  | v :: vs => by unfold back; rw [List.length_set, back_length ρ ρ' vs]
theorem wipeE_some {ρ : ENV} {i : Nat} {x : DV} : ∀ {vs : List Nat}, (wipeE ρ vs)[i]? = some (some x) → ρ[i]? = some (some x) ∧ i ∉ vs
  | [], h => ⟨h, by simp⟩
  | v :: vs, h => by
    unfold wipeE at h
    by_cases hi : v = i
    · subst hi
      by_cases hv : v < (wipeE ρ vs).length
      · rw [List.getElem?_set_self hv] at h; cases h
      · rw [List.getElem?_eq_none (by simpa using hv)] at h; cases h
    · rw [List.getElem?_set_ne hi] at h
      obtain ⟨h1, h2⟩ := wipeE_some h
      exact ⟨h1, by simp only [List.mem_cons, not_or]; exact ⟨fun e => hi e.symm, h2⟩⟩
theorem wipe_keep {σ : St} {i : Nat} : ∀ {vs : List Nat}, i ∉ vs → (wipe σ vs)[i]? = σ[i]?
  | [], _ => rfl
  | v :: vs, h => by
    unfold wipe
    rw [List.getElem?_set_ne (fun e => h (by rw [e]; exact List.mem_cons_self)), wipe_keep fun z => h (List.mem_cons_of_mem _ z)]
/-- what back gives -/
theorem back_some {ρ ρ' : ENV} {i : Nat} {x : DV} : ∀ {vs : List Nat}, (back ρ vs ρ')[i]? = some (some x) → (ρ'[i]? = some (some x) ∧ i ∉ vs) ∨ ((∃ d, x = .sh d) ∧ ρ[i]? = some (some x))
  | [], h => .inl ⟨h, by simp⟩
  | v :: vs, h => by
    unfold back at h
    by_cases hi : v = i
    · subst hi
      by_cases hv : v < (back ρ vs ρ').length
      · rw [List.getElem?_set_self hv] at h
        have h := Option.some.inj h
        split at h
        · rename_i d e; cases h; exact .inr ⟨⟨d, rfl⟩, e⟩
        · cases h
      · rw [List.getElem?_eq_none (by simpa using hv)] at h; cases h
    · rw [List.getElem?_set_ne hi] at h
      rcases back_some h with ⟨h1, h2⟩ | h
      · exact .inl ⟨h1, by simp only [List.mem_cons, not_or]; exact ⟨fun e => hi e.symm, h2⟩⟩
      · exact .inr h
/-- within a block: nothing is raised, nothing is protected -/
def Cc.inner (cc : Cc) : Cc := { cc with W := fun _ _ _ _ => False, pr := [] }
theorem Rl.wiped {K : PySem.W.Frag} {cc : Cc} {B : Hp} {ρ : ENV} {σ : St} {G H : Hp} (r : Rl K cc B ρ σ G H) (vs : List Nat) : Rl K cc.inner B (wipeE ρ vs) (wipe σ vs) G H := by
  refine ⟨r.bk, r.gk, by rw [wipe_length, wipeE_length]; exact r.ln, fun i d e => ?_, fun i m e => ?_, fun i j m m' p e1 e2 e3 e4 => ?_, fun i h => absurd h (by simp [Cc.inner])⟩
  · obtain ⟨h1, h2⟩ := wipeE_some e
    rw [wipe_keep h2]
    exact r.sh i d h1
  · obtain ⟨h1, h2⟩ := wipeE_some e
    rw [wipe_keep h2]
    exact r.ow i m h1
  · obtain ⟨h1, h2⟩ := wipeE_some e1
    obtain ⟨h3, h4⟩ := wipeE_some e2
    rw [wipe_keep h2] at e3
    rw [wipe_keep h4] at e4
    exact r.df i j m m' p h1 h3 e3 e4
theorem Cc.inner_inner (cc : Cc) : cc.inner.inner = cc.inner := rfl
/-- an object that the relation does not speak of is tracked and kept -/
theorem Rl.hold {K : PySem.W.Frag} {cc : Cc} {B : Hp} {ρ : ENV} {σ : St} {G H : Hp} {D : Addr} {o : HO} (r : Rl K cc B ρ σ G H) (h : H D = some o) (hn : ∀ (i : Nat) (m : M), ρ[i]? = some (some (.ow m)) → σ[i]? ≠ some (some (.ref D))) : Rl K cc (upd B D o) ρ σ G H := by
  refine ⟨fun b u e => ?_, r.gk, r.ln, r.sh, fun i m e => ?_, r.df, r.pa⟩
  · by_cases q : b = D
    · subst q; rw [upd_same] at e; cases e; exact h
    · rw [upd_ne q] at e; exact r.bk b u e
  · obtain ⟨p, h1, o'⟩ := r.ow i m e
    have ne : p ≠ D := fun z => by subst z; exact hn i m e h1
    exact ⟨p, h1, by rw [upd_ne ne]; exact o'.nb, o'.ng, o'.at_⟩
theorem Ext.unhold {B G G' : Hp} {D : Addr} {o : HO} (e : Ext (upd B D o) G G') : Ext B G G' := ⟨e.gg, fun a u h => by
  rcases e.nb a u h with h | h
  · exact .inl h
  · by_cases q : a = D
    · subst q; rw [upd_same] at h; cases h
    · rw [upd_ne q] at h; exact .inr h⟩
/-- .. it is written -/
theorem Rl.rewrite {K : PySem.W.Frag} {cc : Cc} {B : Hp} {ρ : ENV} {σ : St} {G H : Hp} {D : Addr} {o o' : HO} (r : Rl K cc (upd B D o) ρ σ G H) (hg : G D = none) : Rl K cc (upd B D o') ρ σ G (upd H D o') := by
  refine ⟨fun b u e => ?_, fun b u e => ?_, r.ln, r.sh, fun i m e => ?_, r.df, r.pa⟩
  · by_cases q : b = D
    · subst q; rw [upd_same] at e ⊢; exact e
    · rw [upd_ne q] at e ⊢; exact r.bk b u (by rw [upd_ne q]; exact e)
  · have q : b ≠ D := fun z => by subst z; rw [hg] at e; cases e
    rw [upd_ne q]; exact r.gk b u e
  · obtain ⟨p, h1, o⟩ := r.ow i m e
    have q : p ≠ D := fun z => by
      subst z
      have := o.nb
      rw [upd_same] at this; cases this
    obtain ⟨x, hx, hm⟩ := o.at_
    exact ⟨p, h1, by have := o.nb; rw [upd_ne q] at this ⊢; exact this, o.ng, x, by rw [upd_ne q]; exact hx, hm⟩
theorem Rl.unhold {K : PySem.W.Frag} {cc : Cc} {B : Hp} {ρ : ENV} {σ : St} {G H : Hp} {D : Addr} {o : HO} (r : Rl K cc (upd B D o) ρ σ G H) (hb : B D = none) : Rl K cc B ρ σ G H ∧ ∀ (i : Nat) (m : M), ρ[i]? = some (some (.ow m)) → σ[i]? ≠ some (some (.ref D)) := by
  have ne : ∀ (i : Nat) (m : M), ρ[i]? = some (some (.ow m)) → ∀ p, σ[i]? = some (some (.ref p)) → p ≠ D ∧ Own K cc.C (upd B D o) G H p m := fun i m e p hp => by
    obtain ⟨p', h1, o'⟩ := r.ow i m e
    rw [hp] at h1; cases h1
    refine ⟨fun z => ?_, o'⟩
    subst z
    have := o'.nb
    rw [upd_same] at this; cases this
  refine ⟨⟨fun b u e => r.bk b u ?_, r.gk, r.ln, r.sh, fun i m e => ?_, r.df, r.pa⟩, fun i m e z => (ne i m e D z).1 rfl⟩
  · have q : b ≠ D := fun z => by subst z; rw [hb] at e; cases e
    rw [upd_ne q]; exact e
  · obtain ⟨p, h1, _⟩ := r.ow i m e
    obtain ⟨h2, o'⟩ := ne i m e p h1
    exact ⟨p, h1, by have := o'.nb; rw [upd_ne h2] at this; exact this, o'.ng, o'.at_⟩
section
variable {X : Cx} {cc : Cc}
def DTs (X : Cx) (cc : Cc) (ifs : List Expr) (den : ENV → R Bool) : Prop := PTs X ifs (rT X.K cc den)
theorem PTs.imp {ifs : List Expr} {t t' : TT} (h : PTs X ifs t) (k : ∀ σ H Q, t' σ H Q → t σ H Q) : PTs X ifs t' := ⟨fun pins s σ H Q I q => h.run pins s σ H Q I (k _ _ _ q)⟩
def dYes : ENV → R Bool := fun ρ => .ok true ρ
theorem dts_nil : DTs X cc [] dYes := PTs.imp pts_nil fun σ H Q ⟨B, ρ, G, R0, h⟩ => h true G H (Ext.refl _ _) R0 rfl
theorem dts_one {c : Expr} {t : ENV → R Bool} (h : DT X cc c t) : DTs X cc [c] t := pts_one h
theorem wipeE_keep {ρ : ENV} {i : Nat} : ∀ {vs : List Nat}, i ∉ vs → (wipeE ρ vs)[i]? = ρ[i]?
  | [], _ => rfl
  | v :: vs, h => by
    unfold wipeE
    rw [List.getElem?_set_ne (fun e => h (by rw [e]; exact List.mem_cons_self)), wipeE_keep fun z => h (List.mem_cons_of_mem _ z)]
theorem wipe_none {σ : St} {i : Nat} : ∀ {vs : List Nat}, i ∈ vs → i < σ.length → (wipe σ vs)[i]? = some none
  | [], h, _ => by cases h
  | v :: vs, h, hl => by
    unfold wipe
    by_cases e : v = i
    · subst e; rw [List.getElem?_set_self (by rw [wipe_length]; exact hl)]
    · rw [List.getElem?_set_ne e]
      rcases List.mem_cons.mp h with z | z
      · exact absurd z.symm e
      · exact wipe_none z hl
theorem wipe_oth {σ σ2 : St} {sl vs : List Nat} (o : Oth sl (wipe σ vs) σ2) (hs : ∀ i ∈ sl, i ∈ vs) : wipe σ2 vs = wipe σ vs := by
  have hl : σ2.length = σ.length := by rw [o.1, wipe_length]
  refine List.ext_getElem? fun i => ?_
  by_cases h : i ∈ vs
  · by_cases hi : i < σ.length
    · rw [wipe_none h (by rw [hl]; exact hi), wipe_none h hi]
    · rw [List.getElem?_eq_none (by rw [wipe_length]; omega), List.getElem?_eq_none (by rw [wipe_length]; omega)]
  · rw [wipe_keep h, o.2 i fun z => h (hs i z)]
theorem Rl.backed {K : PySem.W.Frag} {B : Hp} {ρ1 ρi : ENV} {σ : St} {G1 H1 Gi H : Hp} {vs : List Nat} (R1 : Rl K cc B ρ1 σ G1 H1) (R : Rl K cc.inner B (wipeE ρi vs) (wipe σ vs) Gi H) (s : Same G1 Gi) : Rl K cc B (back ρ1 vs ρi) σ Gi H := by
  have one : ∀ (i : Nat) (m : M), (back ρ1 vs ρi)[i]? = some (some (.ow m)) → (wipeE ρi vs)[i]? = some (some (.ow m)) ∧ (wipe σ vs)[i]? = σ[i]? := fun i m e => by
    rcases back_some e with ⟨h1, h2⟩ | ⟨⟨d, h⟩, _⟩
    · exact ⟨by rw [wipeE_keep h2]; exact h1, wipe_keep h2⟩
    · cases h
  refine ⟨R.bk, R.gk, ?_, fun i d e => ?_, fun i m e => ?_, fun i j m m' p e1 e2 e3 e4 => ?_, R1.pa⟩
  · have h := R.ln
    rw [wipe_length, wipeE_length] at h
    rw [back_length]; exact h
  · rcases back_some e with ⟨h1, h2⟩ | ⟨_, h⟩
    · obtain ⟨v, q1, q2⟩ := R.sh i d (by rw [wipeE_keep h2]; exact h1)
      exact ⟨v, by rw [wipe_keep h2] at q1; exact q1, q2⟩
    · obtain ⟨v, q1, q2⟩ := R1.sh i d h
      exact ⟨v, q1, q2.mono s⟩
  · obtain ⟨h1, h2⟩ := one i m e
    obtain ⟨p, q1, q2⟩ := R.ow i m h1
    exact ⟨p, by rw [h2] at q1; exact q1, q2⟩
  · obtain ⟨h1, h2⟩ := one i m e1
    obtain ⟨h3, h4⟩ := one j m' e2
    exact R.df i j m m' p h1 h3 (by rw [h2]; exact e3) (by rw [h4]; exact e4)
theorem lc_ok {di : ENV → R (List D)} {g : D → ENV → Option ENV} {tt : ENV → R Bool} {te : ENV → R D} {vs sl : List Nat} (hsl : ∀ i ∈ sl, i ∈ vs) :
    ∀ σ H Q, rF X.K cc (fLc di g tt te vs) σ H Q → tLc (rI X.K cc di) (rG X.K cc.inner sl g) (rT X.K cc.inner tt) (rE X.K cc.inner te) vs σ H Q := by
  intro σ H Q ⟨B, ρ, G, R0, h⟩
  refine ⟨B, ρ, G, R0, h.bind fun ds ρ1 G1 H1 J e1 R1 w h1 => ?_⟩
  intro Da hD
  obtain ⟨gd, Y, wlk, hgd, hY⟩ := w.ex
  split at h1
  rotate_left
  · exact h1.elim
  rename_i acc0 ρ2 hno hcomp
  have bD : B Da = none := R1.bk.free hD
  have gD : G1 Da = none := R1.gk.free hD
  refine lc_it wlk (fun i H => ∃ ρi Gi acc av, Ext B G1 Gi ∧ Gi Da = none ∧ RpL X.K cc.C Gi av acc ∧ Rl X.K cc.inner (upd B Da (.lst av)) (wipeE ρi vs) (wipe σ vs) Gi H ∧
    compL g tt te vs (ds.drop i) acc ρi = .ok acc0 ρ2) ?_ ?_ ?_ ?_
  · have R1' := (R1.grow (Grow.newO (o := .lst []) R1.gk hD)).hold upd_same (R1.notAt hD)
    exact ⟨ρ1, G1, [], [], Ext.refl _ _, gD, .nil, R1'.wiped vs, hcomp⟩
  · rintro i H _ ⟨ρi, Gi, acc, av, ex, gn, r, R, hc⟩
    exact hgd Gi H ex.gg R.gk
  · rintro i x H H' hi ⟨ρi, Gi, acc, av, ex, gn, r, R, hc⟩ y
    obtain ⟨d, G3, hd, g3, p3⟩ := hY i Gi H x H' hi ex.gg R.gk y
    have hdrop : ds.drop i = d :: ds.drop (i + 1) := by
      obtain ⟨h1, h2⟩ := List.getElem?_eq_some_iff.mp hd
      rw [← h2]; exact List.drop_eq_getElem_cons h1
    rw [hdrop] at hc
    unfold compL at hc
    cases hgd' : g d (wipeE ρi vs) with
    | none => rw [hgd'] at hc; cases hc
    | some ρ1' =>
      rw [hgd'] at hc
      dsimp only at hc
      have R' := R.grow g3
      have x3 : Ext (upd B Da (.lst av)) Gi G3 := g3.ext R.bk
      refine ⟨_, _, G3, d, ρ1', R', p3, hgd', fun σ2 R2 o2 => ?_⟩
      have hwp : wipe σ2 vs = wipe σ vs := wipe_oth o2 hsl
      refine ⟨hwp, _, ρ1', G3, R2, ?_⟩
      have fin : ∀ {G5 : Hp}, Ext (upd B Da (.lst av)) Gi G5 → G5 Da = none := fun {G5} e => by
        cases q : G5 Da with
        | none => rfl
        | some u =>
          rcases e.nb Da u q with h | h
          · rw [gn] at h; cases h
          · rw [upd_same] at h; cases h
      cases ht : tt ρ1' with
      | exc _ _ => rw [ht] at hc; cases hc
      | bot => rw [ht] at hc; cases hc
      | ok b ρ2' =>
        rw [ht] at hc
        intro b' G4 H4 e4 R4 eb
        subst eb
        cases b' with
        | false =>
          dsimp only at hc
          refine iteF ⟨ρ2', G4, acc, av, ex.trans (x3.trans e4).unhold, fin (x3.trans e4), r.mono (x3.trans e4).gg, ?_, hc⟩
          have := R4.wiped vs
          rw [hwp] at this
          exact this
        | true =>
          dsimp only at hc
          refine iteT ⟨_, ρ2', G4, R4, ?_⟩
          cases hte : te ρ2' with
          | exc _ _ => rw [hte] at hc; cases hc
          | bot => rw [hte] at hc; cases hc
          | ok yd ρ3 =>
            rw [hte] at hc
            dsimp only at hc
            split at hc
            rotate_left
            · cases hc
            rename_i hz
            intro yv G5 H5 e5 R5 p5
            have x5 := (x3.trans e4).trans e5
            refine ⟨av, R5.bk _ _ upd_same, by rw [r.length]; exact hz, ρ3, G5, acc ++ [yd], av ++ [yv], ex.trans x5.unhold, fin x5, (r.mono x5.gg).append (.cons p5 .nil), ?_, hc⟩
            have := (R5.rewrite (o' := .lst (av ++ [yv])) (fin x5)).wiped vs
            rw [hwp] at this
            exact this
  · rintro H ⟨ρi, Gi, acc, av, ex, gn, r, R, hc⟩
    rw [List.drop_length] at hc
    unfold compL at hc
    cases hc
    obtain ⟨R', hn⟩ := R.unhold bD
    have RB := Rl.backed R1 R' ex.gg
    refine h1 Da Gi H ex RB ⟨bD, gn, _, R.bk _ _ upd_same, av, rfl, r⟩ fun i m e z => ?_
    rcases back_some e with ⟨q1, q2⟩ | ⟨⟨d, q⟩, _⟩
    · exact hn i m (by rw [wipeE_keep q2]; exact q1) (by rw [wipe_keep q2]; exact z)
    · cases q
theorem df_lc {elt tg iter : Expr} {ifs : List Expr} {scope : Scope} {own : List (Str × Nat)} {pos : Pos} {di : ENV → R (List D)} {g : D → ENV → Option ENV} {tt : ENV → R Bool} {te : ENV → R D} {sl : List Nat} (hc : X.calm = true) (hN : X.N.Nodup) (hi : DI X cc tg iter di)
    (ok : BlkOk X.N X.env.scope scope own) (hsl : ∀ i ∈ sl, i ∈ own.map (·.2))
    (hg : ∀ (s : Shared) (H : Hp) (C : Addr) (cl : List (Str × Addr)) (fp : List Addr), DG (X.blk s H scope (compEnvC scope cl C X.env) fp) cc.inner tg sl g)
    (ht : ∀ (s : Shared) (H : Hp) (C : Addr) (cl : List (Str × Addr)) (fp : List Addr), DTs (X.blk s H scope (compEnvC scope cl C X.env) fp) cc.inner ifs tt)
    (he : ∀ (s : Shared) (H : Hp) (C : Addr) (cl : List (Str × Addr)) (fp : List Addr), DE (X.blk s H scope (compEnvC scope cl C X.env) fp) cc.inner elt te) (hs : ∀ x, foldedSetIterable iter X.env x = pure x := by intro _; rfl) :
    DF X cc (.ListComp elt [⟨tg, iter, ifs, 0⟩] scope pos) (fLc di g tt te (own.map (·.2))) :=
  PE.imp (pe_lc (g := rG X.K cc.inner sl g) (tt := rT X.K cc.inner tt) (te := rE X.K cc.inner te) hc hN hi ok hg ht he hs) (lc_ok hsl)
end
end Rf
set_option Elab.async false
set_option linter.all false
set_option maxRecDepth 100000
/-! Rf: statements -/
namespace Rf
open PySem PySem.Spec L2
inductive Fl where
  | nx | bk | ct | ret (v : DV)
/-- the object at p is at no owned slot -/
def NotAt (ρ : ENV) (σ : St) (p : Addr) : Prop := ∀ (i : Nat) (m' : M), ρ[i]? = some (some (.ow m')) → σ[i]? ≠ some (some (.ref p))
def PostS (K : PySem.W.Frag) (cc : Cc) (B G : Hp) (Dn : Ends) (r : R Fl) : Prop := match r with
  | .ok .nx ρ' => ∀ σ' G' H', Ext B G G' → Rl K cc B ρ' σ' G' H' → Dn.nx σ' H'
  | .ok .bk ρ' => ∀ σ' G' H', Ext B G G' → Rl K cc B ρ' σ' G' H' → Dn.bk σ' H'
  | .ok .ct ρ' => ∀ σ' G' H', Ext B G G' → Rl K cc B ρ' σ' G' H' → Dn.ct σ' H'
  | .ok (.ret (.sh d)) ρ' => ∀ v σ' G' H', Ext B G G' → Rl K cc B ρ' σ' G' H' → Rp K cc.C G' v d → Dn.rt v H'
  | .ok (.ret (.ow m)) ρ' => ∀ p σ' G' H', Ext B G G' → Rl K cc B ρ' σ' G' H' → Own K cc.C B G' H' p m → NotAt ρ' σ' p → Dn.rt (.ref p) H'
  | .exc e ρ' => ∀ cl dd σ' G' H', Ext B G G' → Rl K cc B ρ' σ' G' H' → ERp K cc.C G' e cl dd → cc.W cl dd σ' H'
  | .bot => False
theorem PostS.ext {K : PySem.W.Frag} {cc : Cc} {B G G1 : Hp} {Dn : Ends} {r : R Fl} (h : PostS K cc B G Dn r) (x : Ext B G G1) : PostS K cc B G1 Dn r := by
  cases r with
  | ok f ρ =>
    cases f with
    | nx => exact fun σ' G' H' e => h σ' G' H' (x.trans e)
    | bk => exact fun σ' G' H' e => h σ' G' H' (x.trans e)
    | ct => exact fun σ' G' H' e => h σ' G' H' (x.trans e)
    | ret v =>
      cases v with
      | sh d => exact fun v σ' G' H' e => h v σ' G' H' (x.trans e)
      | ow m => exact fun v σ' G' H' e => h v σ' G' H' (x.trans e)
  | exc e ρ => exact fun cl dd σ' G' H' e => h cl dd σ' G' H' (x.trans e)
  | bot => exact h
/-- behind an expression of a statement -/
theorem PostS.bind {α β : Type} {K : PySem.W.Frag} {cc : Cc} {V1 : Hp → β → α → Prop} {B G : Hp} {Dn : Ends} {σ : St} {Q' : β → Hp → Prop} {r : R α} {f : α → ENV → R Fl}
    (h : PostS K cc B G Dn (r.bind f))
    (k : ∀ d ρ1 G1 H1 x, Ext B G G1 → Rl K cc B ρ1 σ G1 H1 → V1 G1 x d → PostS K cc B G1 Dn (f d ρ1) → Q' x H1) : Post K cc V1 B G σ Q' r := by
  cases r with
  | ok d ρ1 =>
    intro v G1 H1 e1 R1 p1
    exact k d ρ1 G1 H1 v e1 R1 p1 (PostS.ext (show PostS K cc B G Dn (f d ρ1) from h) e1)
  | exc e ρ1 => exact fun cl dd G' H' e1 R' x => h cl dd σ G' H' e1 R' x
  | bot => exact h
theorem PostS.bindF {K : PySem.W.Frag} {cc : Cc} {B G : Hp} {Dn : Ends} {σ : St} {Q' : V → Hp → Prop} {r : R M} {f : M → ENV → R Fl}
    (h : PostS K cc B G Dn (r.bind f))
    (k : ∀ m ρ1 G1 H1 p, Ext B G G1 → Rl K cc B ρ1 σ G1 H1 → Own K cc.C B G1 H1 p m → NotAt ρ1 σ p → PostS K cc B G1 Dn (f m ρ1) → Q' (.ref p) H1) : PostF K cc B G σ Q' r := by
  cases r with
  | ok d ρ1 =>
    intro p G1 H1 e1 R1 o n
    exact k d ρ1 G1 H1 p e1 R1 o n (PostS.ext (show PostS K cc B G Dn (f d ρ1) from h) e1)
  | exc e ρ1 => exact fun cl dd G' H' e1 R' x => h cl dd σ G' H' e1 R' x
  | bot => exact h
def rS (K : PySem.W.Frag) (cc : Cc) (den : ENV → R Fl) : TS := fun Dn σ H => ∃ B ρ G, Rl K cc B ρ σ G H ∧ PostS K cc B G Dn (den ρ)
def DS (X : Cx) (cc : Cc) (st : Stmt) (den : ENV → R Fl) : Prop := PS X st (rS X.K cc den)
def DSs (X : Cx) (cc : Cc) (st : List Stmt) (den : ENV → R Fl) : Prop := PSs X st (rS X.K cc den)
theorem PostS.here {K : PySem.W.Frag} {cc : Cc} {B G H : Hp} {Dn : Ends} {ρ : ENV} {σ : St} (h : PostS K cc B G Dn (.ok .nx ρ)) (R0 : Rl K cc B ρ σ G H) : Dn.nx σ H := h σ G H (Ext.refl _ _) R0
def sNil : ENV → R Fl := fun ρ => .ok .nx ρ
def sSeq (a b : ENV → R Fl) : ENV → R Fl := fun ρ => match a ρ with
  | .ok .nx ρ1 => b ρ1
  | r => r
section
variable {X : Cx} {cc : Cc} {e o c tg : Expr} {da db : ENV → R D} {pos : Pos} {st : Stmt} {sts : List Stmt} {sa sb : ENV → R Fl} {fa : ENV → R M}
theorem dss_nil : DSs X cc [] sNil := PSs.imp pss_nil fun Dn σ H ⟨B, ρ, G, R0, h⟩ => h.here R0
theorem dss_one (h : DS X cc st sa) : DSs X cc [st] sa := pss_one h
theorem seq_core {K : PySem.W.Frag} {Dn : Ends} {B G : Hp} {ρ : ENV} (h : PostS K cc B G Dn (sSeq sa sb ρ)) : PostS K cc B G { Dn with nx := rS K cc sb Dn } (sa ρ) := by
  unfold sSeq at h
  cases hs : sa ρ with
  | ok f ρ1 =>
    rw [hs] at h
    cases f with
    | nx => exact fun σ' G' H' e R' => ⟨B, ρ1, G', R', PostS.ext h e⟩
    | bk => exact h
    | ct => exact h
    | ret v => cases v with
      | sh d => exact h
      | ow m => exact h
  | exc e ρ1 => rw [hs] at h; exact h
  | bot => rw [hs] at h; exact h
theorem dss_cons (h1 : DS X cc st sa) (h2 : DSs X cc sts sb) : DSs X cc (st :: sts) (sSeq sa sb) := PSs.imp (pss_cons h1 h2) fun Dn σ H ⟨B, ρ, G, R0, h⟩ => ⟨B, ρ, G, R0, seq_core h⟩
def sBreak : ENV → R Fl := fun ρ => .ok .bk ρ
def sCont : ENV → R Fl := fun ρ => .ok .ct ρ
theorem ds_pass : DS X cc (.Pass pos) sNil := PS.imp ps_pass fun Dn σ H ⟨B, ρ, G, R0, h⟩ => h.here R0
theorem ds_break : DS X cc (.Break pos) sBreak := PS.imp ps_break fun Dn σ H ⟨B, ρ, G, R0, h⟩ => h σ G H (Ext.refl _ _) R0
theorem ds_continue : DS X cc (.Continue pos) sCont := PS.imp ps_continue fun Dn σ H ⟨B, ρ, G, R0, h⟩ => h σ G H (Ext.refl _ _) R0
def sExpr (da : ENV → R D) : ENV → R Fl := fun ρ => (da ρ).bind fun _ ρ1 => .ok .nx ρ1
theorem ds_expr (ha : DE X cc e da) (hs : swapsWith e none pos.line X.env = pure false := by rfl) : DS X cc (.Expr e pos) (sExpr da) :=
  PS.imp (ps_expr ha hs) fun Dn σ H ⟨B, ρ, G, R0, h⟩ => ⟨B, ρ, G, R0, h.bind fun d ρ1 G1 H1 x e1 R1 p1 h1 => h1.here R1⟩
def sRet (da : ENV → R D) : ENV → R Fl := fun ρ => (da ρ).bind fun d ρ1 => .ok (.ret (.sh d)) ρ1
theorem ds_ret (ha : DE X cc e da) : DS X cc (.Return (some e) pos) (sRet da) :=
  PS.imp (ps_ret ha) fun Dn σ H ⟨B, ρ, G, R0, h⟩ => ⟨B, ρ, G, R0, h.bind fun d ρ1 G1 H1 x e1 R1 p1 h1 => h1 x σ G1 H1 (Ext.refl _ _) R1 p1⟩
def sRetF (fa : ENV → R M) : ENV → R Fl := fun ρ => (fa ρ).bind fun d ρ1 => .ok (.ret (.ow d)) ρ1
theorem ds_retF (ha : DF X cc e fa) : DS X cc (.Return (some e) pos) (sRetF fa) :=
  PS.imp (ps_ret ha) fun Dn σ H ⟨B, ρ, G, R0, h⟩ => ⟨B, ρ, G, R0, h.bindF fun d ρ1 G1 H1 p e1 R1 o n h1 => h1 p σ G1 H1 (Ext.refl _ _) R1 o n⟩
def sRetN : ENV → R Fl := fun ρ => .ok (.ret (.sh .non)) ρ
theorem ds_retN : DS X cc (.Return none pos) sRetN := PS.imp ps_retN fun Dn σ H ⟨B, ρ, G, R0, h⟩ => h .non σ G H (Ext.refl _ _) R0 .non
theorem Rl.drop {K : PySem.W.Frag} {B : Hp} {ρ : ENV} {σ : St} {G H : Hp} (r : Rl K cc B ρ σ G H) (i : Nat) : Rl K cc B (ρ.set i none) σ G H := by
  have old : ∀ {j : Nat} {x : DV}, (ρ.set i none)[j]? = some (some x) → ρ[j]? = some (some x) ∧ j ≠ i := fun {j x} e => by
    by_cases h : j = i
    · subst h
      by_cases hj : j < ρ.length
      · rw [List.getElem?_set_self hj] at e; cases e
      · rw [List.getElem?_eq_none (by rw [List.length_set]; omega)] at e; cases e
    · rw [List.getElem?_set_ne (Ne.symm h)] at e; exact ⟨e, h⟩
  exact ⟨r.bk, r.gk, by rw [List.length_set]; exact r.ln, fun j d e => r.sh j d (old e).1, fun j m e => r.ow j m (old e).1, fun j k m m' p e1 e2 e3 e4 => r.df j k m m' p (old e1).1 (old e2).1 e3 e4, r.pa⟩
/-- return x, x an owned name -/
def sRetV (i : Nat) : ENV → R Fl := fun ρ => match ρ[i]? with
  | some (some (.ow m)) => .ok (.ret (.ow m)) (ρ.set i none)
  | _ => .bot
theorem ds_retV (i : Nat) {x : Str} {p2 : Pos} (hN : X.N[i]? = some x := by rfl) (hv : Vis X.env.scope x := by first | exact Or.inl rfl | exact Or.inr (Or.inl rfl) | exact Or.inr (Or.inr rfl)) (hd : (x == ("__debug__" : Str)) = false := by decide)
    (hcd : (x == ("__classdict__" : Str)) = false := by decide) : DS X cc (.Return (some (.Name x p2)) pos) (sRetV i) := by
  refine PS.imp (ps_ret (pe_var hN hv hd hcd)) fun Dn σ H ⟨B, ρ, G, R0, h⟩ => ?_
  unfold sRetV at h
  split at h
  · rename_i m e
    obtain ⟨p, hp, o⟩ := R0.ow i m e
    refine ⟨_, hp, h p σ G H (Ext.refl _ _) (R0.drop i) o fun j m' e' z => ?_⟩
    have hj : j ≠ i := fun z => by
      subst z
      rw [List.getElem?_set_self (List.getElem?_eq_some_iff.mp e).1] at e'; cases e'
    rw [List.getElem?_set_ne (Ne.symm hj)] at e'
    exact hj (R0.df j i m' m p e' e z hp)
  · exact h.elim
def sIf (c : ENV → R Bool) (a b : ENV → R Fl) : ENV → R Fl := fun ρ => (c ρ).bind fun x ρ1 => if x = true then a ρ1 else b ρ1
theorem ds_if {tc : ENV → R Bool} {s2 : List Stmt} (hc : DT X cc c tc) (ha : DSs X cc sts sa) (hb : DSs X cc s2 sb) : DS X cc (.If c sts s2 pos) (sIf tc sa sb) := by
  refine PS.imp (ps_if hc ha hb) fun Dn σ H ⟨B, ρ, G, R0, h⟩ => ⟨B, ρ, G, R0, h.bind fun d ρ1 G1 H1 x e1 R1 p1 h1 => ?_⟩
  subst p1
  cases x with
  | true => exact iteT ⟨B, ρ1, G1, R1, h1⟩
  | false => exact iteF ⟨B, ρ1, G1, R1, h1⟩

/-! ### stores -/
def sAsg (da : ENV → R D) (g : D → ENV → Option ENV) : ENV → R Fl := fun ρ => (da ρ).bind fun d ρ1 => match g d ρ1 with
  | some ρ2 => .ok .nx ρ2
  | none => .bot
variable {g : D → ENV → Option ENV} {sl : List Nat}
theorem asg_core {K : PySem.W.Frag} {tgt : TG} (k : ∀ v σ H Q, rG K cc sl g v σ H Q → tgt v σ H Q) : ∀ Dn σ H, rS K cc (sAsg da g) Dn σ H → tAsg (rE K cc da) tgt Dn σ H := by
  intro Dn σ H ⟨B, ρ, G, R0, h⟩
  refine ⟨B, ρ, G, R0, h.bind fun d ρ1 G1 H1 x e1 R1 p1 h1 => k _ _ _ _ ?_⟩
  cases hg : g d ρ1 with
  | none => simp only [hg] at h1; exact h1.elim
  | some ρ2 => simp only [hg] at h1; exact ⟨B, ρ1, G1, d, ρ2, R1, p1, hg, fun σ' R2 _ => h1.here R2⟩
theorem ds_asg (ha : DE X cc e da) (hg : DG X cc tg sl g) (hs : swapsWithSole [tg] e pos.line X.env = pure false := by rfl) (hw : swappedStores [tg] e X.env = pure none := by rfl)
    (h1 : (assignEach [tg] X.env).map (·.2) = [assign tg X.env] := by rfl) : DS X cc (.Assign [tg] e pos) (sAsg da g) := PS.imp (ps_asg ha hg hs hw h1) (asg_core fun _ _ _ _ h => h)
theorem gset_core {K : PySem.W.Frag} {i : Nat} (hp : i ∉ cc.pr) : ∀ v σ H Q, rG K cc [i] (gSet i) v σ H Q → gName i v σ H Q := fun v σ H Q ⟨B, ρ, G, d, ρ', R0, p, e, k⟩ => by
  unfold gSet at e
  split at e
  · rename_i h; cases e; exact k _ (R0.store h hp p) ⟨by rw [List.length_set], fun j hj => List.getElem?_set_ne (fun z => hj (by simp [z]))⟩
  · cases e
theorem ds_set {i : Nat} {x : Str} {p2 : Pos} (hN : X.N.Nodup) (ha : DE X cc e da) (hi : X.N[i]? = some x := by rfl) (hx : Loc X.env.scope x := by first | exact Or.inl rfl | exact Or.inr rfl) (hp : cc.pr.contains i = false := by rfl) (hs : swapsWith e (some (.Name x p2)) pos.line X.env = pure false := by rfl)
    (hf : X.fn x = true ∨ X.env.scope.names.lookup x = some .local := by first | exact .inl rfl | exact .inr rfl | assumption) : DS X cc (.Assign [.Name x p2] e pos) (sAsg da (gSet i)) := PS.imp (ps_set hN hi hx ha hs hf) (asg_core (gset_core (np hp)))
/-- x = a fresh object, x owned -/
def sOwn (fa : ENV → R M) (i : Nat) : ENV → R Fl := fun ρ => (fa ρ).bind fun m ρ1 => if i < ρ1.length then .ok .nx (ρ1.set i (some (.ow m))) else .bot
theorem ite_postS {K : PySem.W.Frag} {B G : Hp} {Dn : Ends} {p : Prop} [Decidable p] {r : R Fl} (h : PostS K cc B G Dn (if p then r else .bot)) : p ∧ PostS K cc B G Dn r := by
  by_cases q : p
  · rw [if_pos q] at h; exact ⟨q, h⟩
  · rw [if_neg q] at h; exact h.elim
theorem own_core {K : PySem.W.Frag} {i : Nat} (hp : i ∉ cc.pr) : ∀ Dn σ H, rS K cc (sOwn fa i) Dn σ H → tAsg (rF K cc fa) (gName i) Dn σ H := by
  intro Dn σ H ⟨B, ρ, G, R0, h⟩
  refine ⟨B, ρ, G, R0, h.bindF fun m ρ1 G1 H1 p e1 R1 o n h1 => ?_⟩
  obtain ⟨hi, h1⟩ := ite_postS h1
  exact h1.here (R1.storeO hi hp o n)
theorem ds_own {i : Nat} {x : Str} {p2 : Pos} (hN : X.N.Nodup) (ha : DF X cc e fa) (hi : X.N[i]? = some x := by rfl) (hx : Loc X.env.scope x := by first | exact Or.inl rfl | exact Or.inr rfl) (hp : cc.pr.contains i = false := by rfl) (hs : swapsWith e (some (.Name x p2)) pos.line X.env = pure false := by rfl)
    (hf : X.fn x = true ∨ X.env.scope.names.lookup x = some .local := by first | exact .inl rfl | exact .inr rfl | assumption) : DS X cc (.Assign [.Name x p2] e pos) (sOwn fa i) := PS.imp (ps_set hN hi hx ha hs hf) (own_core (np hp))
/-- x = [.. for ..] on one line -/
theorem ds_ownLc {elt iter : Expr} {ifs : List Expr} {scope : Scope} {own : List (Str × Nat)} {spos py : Pos} {di : ENV → R (List D)} {tt : ENV → R Bool} {te : ENV → R D} {i : Nat} {y : Str} (hc : X.calm = true) (hN : X.N.Nodup) (hi : DI X cc tg iter di)
    (ok : BlkOk X.N X.env.scope scope own) (hsl : ∀ i ∈ sl, i ∈ own.map (·.2))
    (hg : ∀ (s : Shared) (H : Hp) (C : Addr) (cl : List (Str × Addr)) (fp : List Addr), DG (X.blk s H scope (compEnvC scope cl C X.env) fp) cc.inner tg sl g)
    (ht : ∀ (s : Shared) (H : Hp) (C : Addr) (cl : List (Str × Addr)) (fp : List Addr), DTs (X.blk s H scope (compEnvC scope cl C X.env) fp) cc.inner ifs tt)
    (he : ∀ (s : Shared) (H : Hp) (C : Addr) (cl : List (Str × Addr)) (fp : List Addr), DE (X.blk s H scope (compEnvC scope cl C X.env) fp) cc.inner elt te)
    (hsw : swapsWith (.ListComp elt [⟨tg, iter, ifs, 0⟩] scope pos) (some (.Name y py)) spos.line X.env = pure true) (hy : X.N[i]? = some y := by rfl) (hyl : X.env.scope.names.lookup y = some .local := by rfl) (hp : cc.pr.contains i = false := by rfl) (hs : ∀ x, foldedSetIterable iter X.env x = pure x := by intro _; rfl) :
    DS X cc (.Assign [.Name y py] (.ListComp elt [⟨tg, iter, ifs, 0⟩] scope pos) spos) (sOwn (fLc di g tt te (own.map (·.2))) i) :=
  PS.imp (ps_setLc (g := rG X.K cc.inner sl g) (tt := rT X.K cc.inner tt) (te := rE X.K cc.inner te) hc hN hy hyl hsw hi ok hg ht he hs) fun Dn σ H h => lc_ok hsl _ _ _ (own_core (np hp) Dn σ H h)
theorem ds_setLc {elt iter : Expr} {ifs : List Expr} {scope : Scope} {own : List (Str × Nat)} {spos py : Pos} {di : ENV → R (List D)} {tt : ENV → R Bool} {te : ENV → R D} {i : Nat} {y : Str} (hc : X.calm = true) (hN : X.N.Nodup) (hi : DI X cc tg iter di)
    (ok : BlkOk X.N X.env.scope scope own) (hsl : ∀ i ∈ sl, i ∈ own.map (·.2))
    (hg : ∀ (s : Shared) (H : Hp) (C : Addr) (cl : List (Str × Addr)) (fp : List Addr), DG (X.blk s H scope (compEnvC scope cl C X.env) fp) cc.inner tg sl g)
    (ht : ∀ (s : Shared) (H : Hp) (C : Addr) (cl : List (Str × Addr)) (fp : List Addr), DTs (X.blk s H scope (compEnvC scope cl C X.env) fp) cc.inner ifs tt)
    (he : ∀ (s : Shared) (H : Hp) (C : Addr) (cl : List (Str × Addr)) (fp : List Addr), DE (X.blk s H scope (compEnvC scope cl C X.env) fp) cc.inner elt te)
    (hsw : swapsWith (.ListComp elt [⟨tg, iter, ifs, 0⟩] scope pos) (some (.Name y py)) spos.line X.env = pure true) (hy : X.N[i]? = some y := by rfl) (hyl : X.env.scope.names.lookup y = some .local := by rfl) (hp : cc.pr.contains i = false := by rfl) (hs : ∀ x, foldedSetIterable iter X.env x = pure x := by intro _; rfl) :
    DS X cc (.Assign [.Name y py] (.ListComp elt [⟨tg, iter, ifs, 0⟩] scope pos) spos) (sAsg (fun ρ => frz (fLc di g tt te (own.map (·.2)) ρ)) (gSet i)) := by
  refine PS.imp (ps_setLc (g := rG X.K cc.inner sl g) (tt := rT X.K cc.inner tt) (te := rE X.K cc.inner te) hc hN hy hyl hsw hi ok hg ht he hs) fun Dn σ H h => lc_ok hsl _ _ _ ?_
  obtain ⟨B, ρ, G, R0, h⟩ := h
  refine ⟨B, ρ, G, R0, ?_⟩
  dsimp only [sAsg, frz] at h
  cases hf : fLc di g tt te (own.map (·.2)) ρ with
  | ok m ρ1 =>
    rw [hf] at h
    intro p G1 H1 e1 R1 o nf
    dsimp only [R.bind, gSet] at h
    obtain ⟨x, hx, hm⟩ := o.at_
    by_cases hi : i < ρ1.length
    · rw [if_pos hi] at h
      have R2 := R1.storeO hi (np hp) o nf
      have he : (ρ1.set i (some (.ow m)))[i]? = some (some (.ow m)) := by rw [List.getElem?_set_self hi]
      obtain ⟨p', G', h1, h2, h3, h4⟩ := R2.freeze he
      rw [List.set_set] at h3
      exact h _ G' H1 (e1.trans h2) h3
    · rw [if_neg hi] at h; exact h.elim
  | exc x ρ1 =>
    rw [hf] at h
    exact fun cl dd G' H' e1 R' x => h cl dd σ G' H' e1 R' x
  | bot => rw [hf] at h; exact h.elim
/-- a, b = x, y -/
def sPar (i j : Nat) (da db : ENV → R D) : ENV → R Fl := fun ρ => (da ρ).bind fun x ρ1 => (db ρ1).bind fun y ρ2 => if i < ρ2.length ∧ j < ρ2.length then .ok .nx ((ρ2.set i (some (.sh x))).set j (some (.sh y))) else .bot
theorem ds_par {a b : Expr} {i j : Nat} {x y : Str} {px py pt : Pos} {kt k2 : Nat} {pt2 : Pos} (hc : X.calm = true) (hN : X.N.Nodup) (ha : DE X cc a da) (hb : DE X cc b db) (hi : X.N[i]? = some x := by rfl) (hj : X.N[j]? = some y := by rfl) (hij : i ≠ j := by decide)
    (hx : X.env.scope.names.lookup x = some .local := by rfl) (hy : X.env.scope.names.lookup y = some .local := by rfl)
    (hw : swappedStores [.Tuple [.Name x px, .Name y py] kt pt] (.Tuple [a, b] k2 pt2) X.env = pure (some [x, y]) := by rfl)
    (hs : swapsWithSole [.Tuple [.Name x px, .Name y py] kt pt] (.Tuple [a, b] k2 pt2) pos.line X.env = pure false := by rfl) (hpi : cc.pr.contains i = false := by rfl) (hpj : cc.pr.contains j = false := by rfl)
    (hs3 : starEach [a, b] X.env = (false, eval a X.env) :: starEach [b] X.env := by rfl) (hs4 : starEach [b] X.env = (false, eval b X.env) :: starEach [] X.env := by rfl) :
    DS X cc (.Assign [.Tuple [.Name x px, .Name y py] kt pt] (.Tuple [a, b] k2 pt2) pos) (sPar i j da db) := by
  refine PS.imp (ps_par hc hN hi hj hij hx hy (pa_cons ha (pa_cons hb pa_nil hs4) hs3) hw hs) fun Dn σ H ⟨B, ρ, G, R0, h⟩ => ⟨B, ρ, G, R0, h.bind fun d1 ρ1 G1 H1 x e1 R1 p1 h1 => ⟨B, ρ1, G1, R1, h1.bind fun d2 ρ2 G2 H2 y e2 R2 p2 h2 => ?_⟩⟩
  obtain ⟨⟨hi', hj'⟩, h2⟩ := ite_postS h2
  exact ⟨x, y, rfl, h2.here ((R2.store hi' (np hpi) (p1.mono e2.gg)).store (by rw [List.length_set]; exact hj') (np hpj) p2)⟩

/-! ### an owned list is changed -/
theorem Rl.mutate {K : PySem.W.Frag} {B : Hp} {ρ : ENV} {σ : St} {G H : Hp} {i : Nat} {p : Addr} {m m' : M} {o : HO} (r : Rl K cc B ρ σ G H) (e : ρ[i]? = some (some (.ow m))) (hp : σ[i]? = some (some (.ref p))) (hm : HoldsM K cc.C G o m') : Rl K cc B (ρ.set i (some (.ow m'))) σ G (upd H p o) := by
  obtain ⟨p', h1, ow⟩ := r.ow i m e
  rw [hp] at h1; cases h1
  have il : i < ρ.length := (List.getElem?_eq_some_iff.mp e).1
  have old : ∀ (j : Nat) (x : M), (ρ.set i (some (.ow m')))[j]? = some (some (.ow x)) → ∃ y, ρ[j]? = some (some (.ow y)) := fun j x q => by
    by_cases h : j = i
    · subst h; exact ⟨m, e⟩
    · rw [List.getElem?_set_ne (Ne.symm h)] at q; exact ⟨x, q⟩
  refine ⟨fun b u q => ?_, fun b u q => ?_, by rw [List.length_set]; exact r.ln, fun j d q => ?_, fun j x q => ?_, fun j k m1 m2 q q1 q2 q3 q4 => ?_, r.pa⟩
  · have ne : b ≠ p := fun z => by subst z; rw [ow.nb] at q; cases q
    rw [upd_ne ne]; exact r.bk b u q
  · have ne : b ≠ p := fun z => by subst z; rw [ow.ng] at q; cases q
    rw [upd_ne ne]; exact r.gk b u q
  · by_cases h : j = i
    · subst h; rw [List.getElem?_set_self il] at q; cases q
    · rw [List.getElem?_set_ne (Ne.symm h)] at q; exact r.sh j d q
  · by_cases h : j = i
    · subst h
      rw [List.getElem?_set_self il] at q; cases q
      exact ⟨p, hp, ow.nb, ow.ng, o, upd_same, hm⟩
    · rw [List.getElem?_set_ne (Ne.symm h)] at q
      obtain ⟨p', h1, o'⟩ := r.ow j x q
      have ne : p' ≠ p := fun z => by subst z; exact h (r.df j i x m p' q e h1 hp)
      obtain ⟨y, hy, hm'⟩ := o'.at_
      exact ⟨p', h1, o'.nb, o'.ng, y, by rw [upd_ne ne]; exact hy, hm'⟩
  · obtain ⟨y1, q1⟩ := old j m1 q1
    obtain ⟨y2, q2⟩ := old k m2 q2
    exact r.df j k y1 y2 q q1 q2 q3 q4
theorem lst_ty {K : PySem.W.Frag} {H : Hp} {p : Addr} {xs : List V} (h : H p = some (.lst xs)) : tyV K "list" (.ref p) H := Or.inl ⟨rfl, _, Or.inl (Or.inl h)⟩
/-- an owned list at the slot i -/
theorem Rl.lstAt {K : PySem.W.Frag} {B : Hp} {ρ : ENV} {σ : St} {G H : Hp} {i : Nat} {ds : List D} (r : Rl K cc B ρ σ G H) (e : ρ[i]? = some (some (.ow (.lst ds)))) : ∃ p xs, σ[i]? = some (some (.ref p)) ∧ H p = some (.lst xs) ∧ RpL K cc.C G xs ds := by
  obtain ⟨p, hp, o⟩ := r.ow i _ e
  obtain ⟨x, hx, xs, rfl, rr⟩ := o.at_
  exact ⟨p, xs, hp, hx, rr⟩
/-- xs.append(e) -/
def sApp (i : Nat) (da : ENV → R D) : ENV → R Fl := fun ρ => match ρ[i]? with
  | some (some (.ow (.lst _))) => (da ρ).bind fun d ρ1 => match ρ1[i]? with
    | some (some (.ow (.lst ds))) => if ds.length < sizeLine then .ok .nx (ρ1.set i (some (.ow (.lst (ds ++ [d]))))) else .bot
    | _ => .bot
  | _ => .bot
theorem ds_app (i : Nat) {x : Str} {p2 p3 p4 : Pos} (ha : DE X cc e da) (hN : X.N[i]? = some x := by rfl) (hv : Vis X.env.scope x := by first | exact Or.inl rfl | exact Or.inr (Or.inl rfl) | exact Or.inr (Or.inr rfl)) (hd : (x == ("__debug__" : Str)) = false := by decide)
    (hcd : (x == ("__classdict__" : Str)) = false := by decide) (hs : swapsWith (.Call (.Attribute (.Name x p2) "append" p3) [e] [] p4) none pos.line X.env = pure false := by rfl)
    (hfew : ((backTo p4 (starEach (e :: []) X.env)).all (fun x => !x.1) && (backToKw p4 (keywordEach [] X.env)).all (fun x => x.1.isSome)
      && decide ((e :: []).length + ([] : List Keyword).length + (if ([] : List Keyword).isEmpty then 0 else 1) < 30)) = true := by rfl) (hline : (p3.endLine == p4.line) = true := by rfl)
    (he : starEach [e] X.env = (false, eval e X.env) :: starEach [] X.env := by rfl) (hpl : (backTo p4 (starEach [] X.env)).any (·.1) = false := by rfl) (hb : attributeBase (.Name x p2) "append" X.env (eval (.Name x p2) X.env) = eval (.Name x p2) X.env := by rfl) : DS X cc (.Expr (.Call (.Attribute (.Name x p2) "append" p3) [e] [] p4) pos) (sApp i da) := by
  refine PS.imp (ps_expr (pe_bm PySem.F.plainAttrs_list PySem.F.slot_list_append PySem.F.type_list_append mt_append (pe_var hN hv hd hcd) (pa_cons ha pa_nil he) hb hfew hline he hpl) hs) fun Dn σ H ⟨B, ρ, G, R0, h⟩ => ?_
  unfold sApp at h
  split at h
  rotate_left
  · exact h.elim
  rename_i ds0 e0
  obtain ⟨p, xs, hp, hx, _⟩ := R0.lstAt e0
  refine ⟨_, hp, lst_ty hx, B, ρ, G, R0, h.bind fun d ρ1 G1 H1 y e1 R1 p1 h1 => ?_⟩
  split at h1
  rotate_left
  · exact h1.elim
  rename_i ds e2
  obtain ⟨hz, h1⟩ := ite_postS h1
  obtain ⟨p', xs', hp', hx', rr⟩ := R1.lstAt e2
  rw [hp] at hp'; cases hp'
  exact ⟨p, xs', y, rfl, rfl, hx', by rw [rr.length]; exact hz, h1.here (R1.mutate e2 hp ⟨_, rfl, rr.append (.cons p1 .nil)⟩)⟩
/-- xs[k] = e -/
def sSub (i : Nat) (da di : ENV → R D) : ENV → R Fl := fun ρ => (da ρ).bind fun d ρ1 => match ρ1[i]? with
  | some (some (.ow (.lst _))) => (di ρ1).bind fun k ρ2 => match k, ρ2[i]? with
    | .int k, some (some (.ow (.lst ds))) => match ixN ds.length k with
      | some j => .ok .nx (ρ2.set i (some (.ow (.lst (ds.set j d)))))
      | none => .bot
    | _, _ => .bot
  | _ => .bot
theorem ds_sub (i : Nat) {x : Str} {p2 p3 : Pos} {k : Expr} {di : ENV → R D} (ha : DE X cc e da) (hk : DE X cc k di) (hN : X.N[i]? = some x := by rfl) (hv : Vis X.env.scope x := by first | exact Or.inl rfl | exact Or.inr (Or.inl rfl) | exact Or.inr (Or.inr rfl)) (hd : (x == ("__debug__" : Str)) = false := by decide)
    (hcd : (x == ("__classdict__" : Str)) = false := by decide)
    (hasg : ∀ v, assign (.Subscript (.Name x p2) k p3) X.env v = (do
      let ov ← holding [v] (eval (.Name x p2) X.env)
      let iv ← holding [v, ov] (eval k X.env)
      standAt p3
      holding [v, ov, iv] (setItem ov iv v)
      release [v, ov, iv] []) := by intro _; rfl)
    (hs : swapsWithSole [.Subscript (.Name x p2) k p3] e pos.line X.env = pure false := by rfl) (hw : swappedStores [.Subscript (.Name x p2) k p3] e X.env = pure none := by rfl)
    (h1 : (assignEach [.Subscript (.Name x p2) k p3] X.env).map (·.2) = [assign (.Subscript (.Name x p2) k p3) X.env] := by rfl) : DS X cc (.Assign [.Subscript (.Name x p2) k p3] e pos) (sSub i da di) := by
  refine PS.imp (ps_asg ha (pg_sub (pe_var hN hv hd hcd) hk set_list hasg) hs hw h1) fun Dn σ H ⟨B, ρ, G, R0, h⟩ => ⟨B, ρ, G, R0, h.bind fun d ρ1 G1 H1 y e1 R1 p1 h1 => ?_⟩
  split at h1
  rotate_left
  · exact h1.elim
  rename_i ds0 e0
  obtain ⟨p, xs, hp, hx, _⟩ := R1.lstAt e0
  refine ⟨_, hp, B, ρ1, G1, R1, h1.bind fun kd ρ2 G2 H2 kv e2 R2 p2 h2 => ?_⟩
  split at h2
  rotate_left
  · exact h2.elim
  rename_i k' ds e3
  cases p2 with
  | int k' =>
    obtain ⟨p', xs', hp', hx', rr⟩ := R2.lstAt e3
    rw [hp] at hp'; cases hp'
    cases hj : ixN ds.length k' with
    | none => simp only [hj] at h2; exact h2.elim
    | some j =>
      simp only [hj] at h2
      exact ⟨p, xs', k', j, rfl, rfl, hx', by rw [rr.length]; exact hj, h2.here (R2.mutate e3 hp ⟨_, rfl, rr.set (p1.mono e2.gg) j⟩)⟩
/-- x += e, x -= e of ints -/
def sAug (i : Nat) (f : Int → Int → Int) (da : ENV → R D) : ENV → R Fl := fun ρ => match ρ[i]? with
  | some (some (.sh (.int a))) => (da ρ).bind fun d ρ1 => match d with
    | .int b => if i < ρ1.length then .ok .nx (ρ1.set i (some (.sh (.int (f a b))))) else .bot
    | _ => .bot
  | _ => .bot
theorem ds_aug {op : Operator} {f : Int → Int → Int} (hop : PIp X op (ipI f)) {i : Nat} {x : Str} {p2 : Pos} (hN : X.N.Nodup) (ha : DE X cc e da) (hi : X.N[i]? = some x := by rfl) (hx : Loc X.env.scope x := by first | exact Or.inl rfl | exact Or.inr rfl) (hp : cc.pr.contains i = false := by rfl)
    (hf : X.fn x = true ∨ X.env.scope.names.lookup x = some .local := by first | exact .inl rfl | exact .inr rfl | assumption) : DS X cc (.AugAssign (.Name x p2) op e pos) (sAug i f da) := by
  refine PS.imp (ps_aug hN hi hx ha hop hf) fun Dn σ H ⟨B, ρ, G, R0, h⟩ => ?_
  unfold sAug at h
  split at h
  rotate_left
  · exact h.elim
  rename_i a e0
  obtain ⟨v, hv, pv⟩ := R0.sh i _ e0
  cases pv
  refine ⟨_, hv, B, ρ, G, R0, h.bind fun d ρ1 G1 H1 y e1 R1 p1 h1 => ?_⟩
  cases p1 with
  | int b =>
    obtain ⟨hi, h1⟩ := ite_postS h1
    exact ⟨a, b, rfl, rfl, h1.here (R1.store hi (np hp) (.int _))⟩
  | _ => exact h1.elim

/-! ### loops -/
def forL (g : D → ENV → Option ENV) (body : ENV → R Fl) : List D → ENV → R Fl
  | [], ρ => .ok .nx ρ
  | d :: ds, ρ => match g d ρ with
    | none => .bot
    | some ρ1 => match body ρ1 with
      | .ok .nx ρ2 => forL g body ds ρ2
      | .ok .ct ρ2 => forL g body ds ρ2
      | .ok .bk ρ2 => .ok .nx ρ2
      | .ok (.ret v) ρ2 => .ok (.ret v) ρ2
      | .exc e ρ2 => .exc e ρ2
      | .bot => .bot
def sFor (di : ENV → R (List D)) (g : D → ENV → Option ENV) (body : ENV → R Fl) : ENV → R Fl := fun ρ => (di ρ).bind fun ds ρ1 => forL g body ds ρ1
theorem ds_for {iter : Expr} {body : List Stmt} {di : ENV → R (List D)} {sb : ENV → R Fl} (hp : PassesOwn (model X.prog X.w) X.A X.env X.xe) (hc : X.calm = true) (hi : DI X cc tg iter di) (hg : DG X cc tg sl g) (hb : DSs X cc body sb)
    (hs : ∀ x, foldedSetIterable iter X.env x = pure x := by intro _; rfl) : DS X cc (.For tg iter body [] pos) (sFor di g sb) := by
  refine PS.imp (ps_for (g := rG X.K cc sl g) (tb := rS X.K cc sb) hp hc hi hg hb hs) fun Dn σ H ⟨B, ρ, G, R0, h⟩ => ⟨B, ρ, G, R0, h.bind fun ds ρ1 G1 H1 J e1 R1 w h1 => ?_⟩
  obtain ⟨gd, Y, wlk, hgd, hY⟩ := w.ex
  refine for_it wlk (fun i σ H => ∃ ρi Gi, Ext B G1 Gi ∧ Rl X.K cc B ρi σ Gi H ∧ PostS X.K cc B Gi Dn (forL g sb (ds.drop i) ρi)) ⟨ρ1, G1, Ext.refl _ _, R1, h1⟩ (fun i σ H _ ⟨ρi, Gi, ex, R, _⟩ => hgd Gi H ex.gg R.gk) ?_ ?_
  · rintro i x σ H H' hi ⟨ρi, Gi, ex, R, hq⟩ y
    obtain ⟨d, G3, hd, g3, p3⟩ := hY i Gi H x H' hi ex.gg R.gk y
    have hdrop : ds.drop i = d :: ds.drop (i + 1) := by
      obtain ⟨h1, h2⟩ := List.getElem?_eq_some_iff.mp hd
      rw [← h2]; exact List.drop_eq_getElem_cons h1
    rw [hdrop] at hq
    unfold forL at hq
    have R' := R.grow g3
    have x3 := g3.ext R.bk
    cases hgd' : g d ρi with
    | none => simp only [hgd'] at hq; exact hq.elim
    | some ρ1' =>
      simp only [hgd'] at hq
      refine ⟨B, ρi, G3, d, ρ1', R', p3, hgd', fun σ2 R2 _ => ⟨B, ρ1', G3, R2, ?_⟩⟩
      have hq := hq.ext x3
      cases hb : sb ρ1' with
      | ok f ρ2 =>
        rw [hb] at hq
        cases f with
        | nx => exact fun σ' G' H' e R4 => ⟨ρ2, G', ex.trans (x3.trans e), R4, PostS.ext hq e⟩
        | ct => exact fun σ' G' H' e R4 => ⟨ρ2, G', ex.trans (x3.trans e), R4, PostS.ext hq e⟩
        | bk => exact hq
        | ret v => cases v with
          | sh d => exact hq
          | ow m => exact hq
      | exc e ρ2 => rw [hb] at hq; exact hq
      | bot => rw [hb] at hq; exact hq
  · rintro σ H ⟨ρi, Gi, ex, R, hq⟩
    rw [List.drop_length] at hq
    exact PostS.here hq R
def whileF (c : ENV → R Bool) (body : ENV → R Fl) : Nat → ENV → R Fl
  | 0, _ => .bot
  | n + 1, ρ => (c ρ).bind fun b ρ1 => if b = true then match body ρ1 with
      | .ok .nx ρ2 => whileF c body n ρ2
      | .ok .ct ρ2 => whileF c body n ρ2
      | .ok .bk ρ2 => .ok .nx ρ2
      | r => r
    else .ok .nx ρ1
def sWhile (n : ENV → Nat) (c : ENV → R Bool) (body : ENV → R Fl) : ENV → R Fl := fun ρ => whileF c body (n ρ) ρ
theorem ds_while {body : List Stmt} {tc : ENV → R Bool} {sb : ENV → R Fl} (n : ENV → Nat) (hp : PassesOwn (model X.prog X.w) X.A X.env X.xe) (hc : DT X cc c tc) (hb : DSs X cc body sb) : DS X cc (.While c body [] pos) (sWhile n tc sb) := by
  refine PS.imp (ps_while hp hc hb) fun Dn σ H ⟨B, ρ, G, R0, h⟩ => ⟨fun m σ H => ∃ ρi Gi, Ext B G Gi ∧ Rl X.K cc B ρi σ Gi H ∧ PostS X.K cc B Gi Dn (whileF tc sb m ρi), ⟨n ρ, ρ, G, Ext.refl _ _, R0, h⟩, ?_⟩
  rintro m σ H ⟨ρi, Gi, ex, R, hq⟩
  cases m with
  | zero => exact hq.elim
  | succ m =>
    refine ⟨B, ρi, Gi, R, PostS.bind (show PostS X.K cc B Gi Dn ((tc ρi).bind _) from hq) fun b ρ1 G1 H1 b' e1 R1 eb hq => ?_⟩
    subst eb
    cases b' with
    | false =>
      exact iteF (PostS.here hq R1)
    | true =>
      refine iteT ⟨fun σ' H' => ∃ ρi Gi, Ext B G Gi ∧ Rl X.K cc B ρi σ' Gi H' ∧ PostS X.K cc B Gi Dn (whileF tc sb m ρi), fun σ' H' h => ⟨m, Nat.lt_succ_self m, h⟩, B, ρ1, G1, R1, ?_⟩
      simp only [if_true] at hq
      have x1 := ex.trans e1
      cases hb : sb ρ1 with
      | ok f ρ2 =>
        rw [hb] at hq
        cases f with
        | nx => exact fun σ' G' H' e R4 => ⟨ρ2, G', x1.trans e, R4, PostS.ext hq e⟩
        | ct => exact fun σ' G' H' e R4 => ⟨ρ2, G', x1.trans e, R4, PostS.ext hq e⟩
        | bk => exact hq
        | ret v => cases v with
          | sh d => exact hq
          | ow m => exact hq
      | exc e ρ2 => rw [hb] at hq; exact hq
      | bot => rw [hb] at hq; exact hq
end
end Rf
set_option Elab.async false
set_option linter.all false
set_option maxRecDepth 100000
/-! Rf: defs and calls -/
namespace Rf
open PySem PySem.Spec L2
/-- what a def does, from its arguments: its value and what its owned arguments hold behind it -/
inductive FO where
  | ok (v : DV) (ms : List M) | exc (e : EX) (ms : List M) | bot
inductive AR (K : PySem.W.Frag) (C : Nat → Addr) (B G H : Hp) : List V → List DV → Prop
  | nil : AR K C B G H [] []
  | sh {v : V} {d : D} {vs : List V} {ds : List DV} (h : Rp K C G v d) (r : AR K C B G H vs ds) : AR K C B G H (v :: vs) (.sh d :: ds)
  | ow {p : Addr} {m : M} {vs : List V} {ds : List DV} (h : Own K C B G H p m) (r : AR K C B G H vs ds) : AR K C B G H (.ref p :: vs) (.ow m :: ds)
inductive Outs (K : PySem.W.Frag) (C : Nat → Addr) (B G H : Hp) : List V → List DV → List M → Prop
  | nil : Outs K C B G H [] [] []
  | sh {v : V} {d : D} {vs : List V} {ds : List DV} {ms : List M} (r : Outs K C B G H vs ds ms) : Outs K C B G H (v :: vs) (.sh d :: ds) ms
  | ow {p : Addr} {m m' : M} {vs : List V} {ds : List DV} {ms : List M} (h : Own K C B G H p m') (r : Outs K C B G H vs ds ms) : Outs K C B G H (.ref p :: vs) (.ow m :: ds) (m' :: ms)
/-- owned arguments stand apart -/
def Apart (vs : List V) (ds : List DV) : Prop := ∀ (i j : Nat) (m m' : M) (p : Addr), ds[i]? = some (.ow m) → ds[j]? = some (.ow m') → vs[i]? = some (.ref p) → vs[j]? = some (.ref p) → i = j
def NotOf (vs : List V) (ds : List DV) (p : Addr) : Prop := ∀ (i : Nat) (m : M), ds[i]? = some (.ow m) → vs[i]? ≠ some (.ref p)
def ValR (K : PySem.W.Frag) (C : Nat → Addr) (B G H : Hp) (vs : List V) (ds : List DV) (x : V) : DV → Prop
  | .sh d => Rp K C G x d
  | .ow m => ∃ p, x = .ref p ∧ Own K C B G H p m ∧ NotOf vs ds p
/-- a def's promise, by what it does -/
def spF (K : PySem.W.Frag) (C : Nat → Addr) (n : Nat) (F : List DV → FO) : Sp := fun vs H Q E => ∃ ds B G, vs.length = n ∧ Same B H ∧ Same G H ∧ AR K C B G H vs ds ∧ Apart vs ds ∧
  match F ds with
  | .ok v ms => ∀ x G' H', Ext B G G' → Same B H' → Same G' H' → Outs K C B G' H' vs ds ms → ValR K C B G' H' vs ds x v → Q x H'
  | .exc e ms => ∀ cl dd G' H', Ext B G G' → Same B H' → Same G' H' → Outs K C B G' H' vs ds ms → ERp K C G' e cl dd → E cl dd H'
  | .bot => False
theorem AR.length {K : PySem.W.Frag} {C : Nat → Addr} {B G H : Hp} : ∀ {vs : List V} {ds : List DV}, AR K C B G H vs ds → vs.length = ds.length
  | _, _, .nil => rfl
  | _, _, .sh _ r => congrArg (· + 1) r.length
  | _, _, .ow _ r => congrArg (· + 1) r.length
theorem AR.getSh {K : PySem.W.Frag} {C : Nat → Addr} {B G H : Hp} : ∀ {vs : List V} {ds : List DV} {i : Nat} {d : D}, AR K C B G H vs ds → ds[i]? = some (.sh d) → ∃ v, vs[i]? = some v ∧ Rp K C G v d
  | _, _, i, d, .nil, e => by simp at e
  | _, _, 0, d, .sh h _, e => by simp at e; subst e; exact ⟨_, rfl, h⟩
  | _, _, 0, d, .ow h _, e => by simp at e
  | _, _, i + 1, d, .sh _ r, e => by obtain ⟨v, h1, h2⟩ := AR.getSh (i := i) (d := d) r (by simpa using e); exact ⟨v, by simpa using h1, h2⟩
  | _, _, i + 1, d, .ow _ r, e => by obtain ⟨v, h1, h2⟩ := AR.getSh (i := i) (d := d) r (by simpa using e); exact ⟨v, by simpa using h1, h2⟩
theorem AR.getOw {K : PySem.W.Frag} {C : Nat → Addr} {B G H : Hp} : ∀ {vs : List V} {ds : List DV} {i : Nat} {m : M}, AR K C B G H vs ds → ds[i]? = some (.ow m) → ∃ p, vs[i]? = some (.ref p) ∧ Own K C B G H p m
  | _, _, i, d, .nil, e => by simp at e
  | _, _, 0, d, .sh h _, e => by simp at e
  | _, _, 0, d, .ow h _, e => by simp at e; subst e; exact ⟨_, rfl, h⟩
  | _, _, i + 1, d, .sh _ r, e => by obtain ⟨v, h1, h2⟩ := AR.getOw (i := i) (m := d) r (by simpa using e); exact ⟨v, by simpa using h1, h2⟩
  | _, _, i + 1, d, .ow _ r, e => by obtain ⟨v, h1, h2⟩ := AR.getOw (i := i) (m := d) r (by simpa using e); exact ⟨v, by simpa using h1, h2⟩
/-- the places of owned arguments -/
def owPos : Nat → List DV → List Nat
  | _, [] => []
  | k, .sh _ :: r => owPos (k + 1) r
  | k, .ow _ :: r => k :: owPos (k + 1) r
theorem owPos_at : ∀ (ds : List DV) (k i : Nat), i ∈ owPos k ds → ∃ j m, i = k + j ∧ ds[j]? = some (.ow m)
  | [], _, _, h => by cases h
  | .sh d :: r, k, i, h => by
    obtain ⟨j, m, e, q⟩ := owPos_at r (k + 1) i h
    exact ⟨j + 1, m, by omega, by simpa using q⟩
  | .ow m :: r, k, i, h => by
    rcases List.mem_cons.mp h with h | h
    · exact ⟨0, m, by omega, rfl⟩
    · obtain ⟨j, m', e, q⟩ := owPos_at r (k + 1) i h
      exact ⟨j + 1, m', by omega, by simpa using q⟩
/-- what they hold at the end -/
def outsE : Nat → List DV → ENV → Option (List M)
  | _, [], _ => some []
  | k, .sh _ :: r, ρ => outsE (k + 1) r ρ
  | k, .ow _ :: r, ρ => match ρ[k]? with
    | some (some (.ow m)) => (outsE (k + 1) r ρ).map (m :: ·)
    | _ => none
def startE (n : Nat) (ds : List DV) : ENV := ds.map some ++ List.replicate (n - ds.length) none
def runF (pr : List Nat) (n : Nat) (den : ENV → R Fl) : List DV → FO := fun ds => if owPos 0 ds = pr then match den (startE n ds) with
  | .ok (.ret v) ρ => match outsE 0 ds ρ with | some ms => .ok v ms | none => .bot
  | .ok .nx ρ => match outsE 0 ds ρ with | some ms => .ok (.sh .non) ms | none => .bot
  | .exc e ρ => match outsE 0 ds ρ with | some ms => .exc e ms | none => .bot
  | _ => .bot
  else .bot
def adOf (vs : List V) (i : Nat) : Addr := match vs[i]? with
  | some (.ref p) => p
  | _ => 0
section
variable {P : Program} {w : World} {K : PySem.W.Frag} {mg : Str → Option Value} {base : Heap} {C : Nat → Addr}
theorem startE_get {n : Nat} {ds : List DV} {i : Nat} {x : DV} (h : (startE n ds)[i]? = some (some x)) : ds[i]? = some x := by
  unfold startE at h
  by_cases hi : i < ds.length
  · rw [List.getElem?_append_left (by rw [List.length_map]; exact hi), List.getElem?_map] at h
    cases e : ds[i]? with
    | none => rw [e] at h; cases h
    | some y => rw [e] at h; cases h; rfl
  · rw [List.getElem?_append_right (by rw [List.length_map]; omega)] at h
    obtain ⟨h1, h2⟩ := List.getElem?_eq_some_iff.mp h
    rw [List.getElem_replicate] at h2; cases h2
theorem start_get {N : List Str} {vs : List V} {i : Nat} {v : V} (h : vs[i]? = some v) : (L2.start N vs)[i]? = some (some v) := by
  unfold L2.start
  have hi := (List.getElem?_eq_some_iff.mp h).1
  rw [List.getElem?_append_left (by rw [List.length_map]; exact hi), List.getElem?_map, h]; rfl
theorem outs_of {cc : Cc} {B G' H' G0 H0 : Hp} {ρ : ENV} {σ : St} (R : Rl K cc B ρ σ G' H') : ∀ {vs : List V} {ds : List DV} {k : Nat} {ms : List M}, AR K cc.C B G0 H0 vs ds → (∀ j p, vs[j]? = some (.ref p) → (∃ m, ds[j]? = some (.ow m)) → σ[k + j]? = some (some (.ref p))) →
    outsE k ds ρ = some ms → Outs K cc.C B G' H' vs ds ms
  | _, _, k, ms, .nil, _, e => by cases e; exact .nil
  | _, _, k, ms, .sh h r, hσ, e => .sh (outs_of R (k := k + 1) r (fun j p h1 ⟨m, h2⟩ => by have := hσ (j + 1) p (by simpa using h1) ⟨m, by simpa using h2⟩; rw [show k + (j + 1) = k + 1 + j by omega] at this; exact this) e)
  | _, _, k, ms, .ow (p := p) (m := m0) h r, hσ, e => by
    unfold outsE at e
    split at e
    · rename_i m hm
      cases ho : outsE (k + 1) _ ρ with
      | none => rw [ho] at e; cases e
      | some ms' =>
        rw [ho] at e; cases e
        have hp := hσ 0 p rfl ⟨m0, rfl⟩
        obtain ⟨p', h1, o⟩ := R.ow k m hm
        rw [Nat.add_zero, h1] at hp
        cases hp
        exact .ow o (outs_of R (k := k + 1) r (fun j p h1 ⟨m, h2⟩ => by have := hσ (j + 1) p (by simpa using h1) ⟨m, by simpa using h2⟩; rw [show k + (j + 1) = k + 1 + j by omega] at this; exact this) ho)
    · cases e
/-- THE RULE: a def by the denotation of its body -/
theorem fn_ok {x qual : Str} {st : Stmt} {f : Addr} {fd : FuncData} {N ps : List Str} {k : Nat} (F : Fun K x qual st f fd) (S : FnScope N ps (defScope st)) (pr : List Nat) {den : ENV → R Fl} (hlen : ps.length ≤ N.length)
    (hb : ∀ (cdv : Value) (A : Around) (outer : List Env) (s : Shared) (H : Hp) (E : XK) (ad : Nat → Addr), Room k (A.deeper (PyProof.Rows.envOfC qual (defScope st) s.heap.objs.size f cdv)) →
      DSs (cxOf (L2.CX P w) P w K mg base N qual (defScope st) f cdv A outer s H E) ⟨C, fun cl d _ H => E cl d H, pr, ad⟩ (defBody st) den) : FnOk P w K mg base (L2.CX P w) (k + 1) f fd ps (spF K C ps.length (runF pr N.length den)) := by
  refine F.okX S (fun vs H Q E h => ?_) (fun cdv A outer s H vs Q E hr h => ?_)
  · obtain ⟨ds, B, G, e, _⟩ := h
    exact e
  · obtain ⟨ds, B, G, hn, sB, sG, ar, ap, hF⟩ := h
    have hpos : owPos 0 ds = pr := by
      unfold runF at hF
      by_cases q : owPos 0 ds = pr
      · exact q
      · rw [if_neg q] at hF; exact hF.elim
    have hl := ar.length
    have R0 : Rl K ⟨C, fun cl d _ H => E cl d H, pr, adOf vs⟩ B (startE N.length ds) (L2.start N vs) G H := by
      refine ⟨sB, sG, ?_, fun i d e => ?_, fun i m e => ?_, fun i j m m' p e1 e2 e3 e4 => ?_, fun i hi => ?_⟩
      · unfold L2.start startE
        rw [List.length_append, List.length_append, List.length_map, List.length_map, List.length_replicate, List.length_replicate, hl]
      · obtain ⟨v, h1, h2⟩ := ar.getSh (startE_get e)
        exact ⟨v, start_get h1, h2⟩
      · obtain ⟨p, h1, h2⟩ := ar.getOw (startE_get e)
        exact ⟨p, start_get h1, h2⟩
      · have g1 := startE_get e1
        have g2 := startE_get e2
        obtain ⟨p1, h1, _⟩ := ar.getOw g1
        obtain ⟨p2, h2, _⟩ := ar.getOw g2
        rw [start_get h1] at e3
        rw [start_get h2] at e4
        cases e3; cases e4
        exact ap i j m m' _ g1 g2 h1 h2
      · have hi : i ∈ pr := hi
        rw [← hpos] at hi
        obtain ⟨j, m, e, q⟩ := owPos_at ds 0 i hi
        rw [Nat.zero_add] at e
        subst e
        obtain ⟨p, h1, _⟩ := ar.getOw q
        rw [start_get h1]
        show _ = some (some (V.ref (adOf vs i)))
        unfold adOf
        rw [h1]
    refine ⟨_, hb cdv A outer s H E (adOf vs) hr, B, startE N.length ds, G, R0, ?_⟩
    unfold runF at hF
    rw [if_pos hpos] at hF
    have pos : ∀ {j : Nat} {m : M}, ds[j]? = some (.ow m) → j ∈ pr := by
      have go : ∀ (ds : List DV) (k j : Nat) (m : M), ds[j]? = some (.ow m) → k + j ∈ owPos k ds := by
        intro ds
        induction ds with
        | nil => intro k j m h; simp at h
        | cons a r ih =>
          intro k j m h
          cases j with
          | zero => simp at h; subst h; simp [owPos]
          | succ j =>
            have := ih (k + 1) j m (by simpa using h)
            rw [show k + 1 + j = k + (j + 1) by omega] at this
            cases a with
            | sh d => exact this
            | ow m' => exact List.mem_cons_of_mem _ this
      intro j m h
      have := go ds 0 j m h
      rw [hpos, Nat.zero_add] at this
      exact this
    have hσ : ∀ {σ' : St} {ρ : ENV} {G' H' : Hp}, Rl K ⟨C, fun cl d _ H => E cl d H, pr, adOf vs⟩ B ρ σ' G' H' → ∀ (j : Nat) (p : Addr), vs[j]? = some (.ref p) → (∃ m, ds[j]? = some (.ow m)) → σ'[0 + j]? = some (some (.ref p)) := by
      intro σ' ρ G' H' R j p h1 ⟨m, h2⟩
      have := R.pa j (pos h2)
      rw [Nat.zero_add, this]
      show some (some (V.ref (adOf vs j))) = _
      unfold adOf
      rw [h1]
    have fin : ∀ {v : DV} {ρ : ENV}, (match (match outsE 0 ds ρ with | some ms => FO.ok v ms | none => .bot) with
        | .ok v ms => ∀ x G' H', Ext B G G' → Same B H' → Same G' H' → Outs K C B G' H' vs ds ms → ValR K C B G' H' vs ds x v → Q x H'
        | .exc e ms => ∀ cl dd G' H', Ext B G G' → Same B H' → Same G' H' → Outs K C B G' H' vs ds ms → ERp K C G' e cl dd → E cl dd H'
        | .bot => False) → ∀ x σ' G' H', Ext B G G' → Rl K ⟨C, fun cl d _ H => E cl d H, pr, adOf vs⟩ B ρ σ' G' H' → ValR K C B G' H' vs ds x v → Q x H' := by
      intro v ρ h x σ' G' H' ex R hv
      cases ho : outsE 0 ds ρ with
      | none => rw [ho] at h; exact h.elim
      | some ms => rw [ho] at h; exact h x G' H' ex R.bk R.gk (outs_of R ar (hσ R) ho) hv
    cases hd : den (startE N.length ds) with
    | ok fl ρ =>
      rw [hd] at hF
      cases fl with
      | nx => exact fun σ' G' H' ex R => fin hF .non σ' G' H' ex R .non
      | bk => exact hF.elim
      | ct => exact hF.elim
      | ret v =>
        cases v with
        | sh d => exact fun v σ' G' H' ex R p => fin hF v σ' G' H' ex R p
        | ow m =>
          refine fun p σ' G' H' ex R o n => ?_
          have hF' := hF
          dsimp only at hF'
          cases ho : outsE 0 ds ρ with
          | none => simp only [ho] at hF'
          | some ms =>
            have os := outs_of R ar (hσ R) ho
            refine fin hF (.ref p) σ' G' H' ex R ⟨p, rfl, o, fun i m' e z => ?_⟩
            -- the argument at i is owned at the end
            have own : ∀ {vs : List V} {ds : List DV} {k i : Nat} {ms : List M} {m' : M}, outsE k ds ρ = some ms → ds[i]? = some (.ow m') → ∃ m'', ρ[k + i]? = some (some (.ow m'')) := by
              intro vs ds
              induction ds with
              | nil => intro k i ms m' _ h; simp at h
              | cons a r ih =>
                intro k i ms m' h1 h2
                cases a with
                | sh d =>
                  cases i with
                  | zero => simp at h2
                  | succ i =>
                    obtain ⟨m'', q⟩ := ih (k := k + 1) (i := i) (m' := m') h1 (by simpa using h2)
                    exact ⟨m'', by rw [show k + (i + 1) = k + 1 + i by omega]; exact q⟩
                | ow m0 =>
                  unfold outsE at h1
                  split at h1
                  · rename_i m1 hm
                    cases i with
                    | zero => exact ⟨m1, hm⟩
                    | succ i =>
                      cases ho : outsE (k + 1) r ρ with
                      | none => rw [ho] at h1; cases h1
                      | some ms' =>
                        obtain ⟨m'', q⟩ := ih (k := k + 1) (i := i) (m' := m') ho (by simpa using h2)
                        exact ⟨m'', by rw [show k + (i + 1) = k + 1 + i by omega]; exact q⟩
                  · cases h1
            obtain ⟨m'', q⟩ := own (vs := vs) ho e
            have h3 := hσ R i p z ⟨m', e⟩
            exact n _ m'' q h3
    | exc e ρ =>
      rw [hd] at hF
      refine fun cl dd σ' G' H' ex R er => ?_
      dsimp only at hF
      cases ho : outsE 0 ds ρ with
      | none => simp only [ho] at hF
      | some ms =>
        simp only [ho] at hF
        exact hF cl dd G' H' ex R.bk R.gk (outs_of R ar (hσ R) ho) er
    | bot => rw [hd] at hF; exact hF.elim
end
end Rf
set_option Elab.async false
set_option linter.all false
set_option maxRecDepth 100000
/-! Rf: calls -/
namespace Rf
open PySem PySem.Spec L2
abbrev Ag := Sum D Nat
inductive AgR (K : PySem.W.Frag) (C : Nat → Addr) (σ : St) (G : Hp) : List V → List Ag → Prop
  | nil : AgR K C σ G [] []
  | sh {v : V} {d : D} {vs : List V} {as : List Ag} (h : Rp K C G v d) (r : AgR K C σ G vs as) : AgR K C σ G (v :: vs) (.inl d :: as)
  | io {p : Addr} {i : Nat} {vs : List V} {as : List Ag} (h : σ[i]? = some (some (.ref p))) (r : AgR K C σ G vs as) : AgR K C σ G (.ref p :: vs) (.inr i :: as)
theorem AgR.mono {K : PySem.W.Frag} {C : Nat → Addr} {σ : St} {G G' : Hp} (s : Same G G') : ∀ {vs : List V} {as : List Ag}, AgR K C σ G vs as → AgR K C σ G' vs as
  | _, _, .nil => .nil
  | _, _, .sh h r => .sh (h.mono s) (r.mono s)
  | _, _, .io h r => .io h (r.mono s)
def rAg (K : PySem.W.Frag) (cc : Cc) (den : ENV → R (List Ag)) : TA := fun σ H Q => ∃ B ρ G, Rl K cc B ρ σ G H ∧ Post K cc (fun G' vs as => AgR K cc.C σ G' vs as) B G σ Q (den ρ)
def DAg (X : Cx) (cc : Cc) (e : List Expr) (den : ENV → R (List Ag)) : Prop := PA X e (rAg X.K cc den)
def aNil : ENV → R (List Ag) := fun ρ => .ok [] ρ
def aVal (da : ENV → R D) (dr : ENV → R (List Ag)) : ENV → R (List Ag) := fun ρ => (da ρ).bind fun x ρ1 => (dr ρ1).bind fun xs ρ2 => .ok (.inl x :: xs) ρ2
def aIo (i : Nat) (dr : ENV → R (List Ag)) : ENV → R (List Ag) := fun ρ => match ρ[i]? with
  | some (some (.ow _)) => (dr ρ).bind fun xs ρ2 => .ok (.inr i :: xs) ρ2
  | _ => .bot
section
variable {X : Cx} {cc : Cc} {e : Expr} {es : List Expr} {da : ENV → R D} {dr : ENV → R (List Ag)} {pos p : Pos}
theorem dag_nil : DAg X cc [] aNil := PA.imp pa_nil fun σ H Q ⟨B, ρ, G, R0, h⟩ => h [] G H (Ext.refl _ _) R0 .nil
theorem dag_val (ha : DE X cc e da) (hr : DAg X cc es dr) (hs : starEach (e :: es) X.env = (false, eval e X.env) :: starEach es X.env := by rfl) : DAg X cc (e :: es) (aVal da dr) := by
  refine PA.imp (pa_cons ha hr hs) fun σ H Q ⟨B, ρ, G, R0, h⟩ => ⟨B, ρ, G, R0, Post.bind (V2 := fun G' vs as => AgR X.K cc.C σ G' vs as) h fun d1 ρ1 G1 H1 x e1 R1 p1 h1 => ⟨B, ρ1, G1, R1, Post.bind (V2 := fun G' vs as => AgR X.K cc.C σ G' vs as) h1 fun d2 ρ2 G2 H2 y e2 R2 p2 h2 => ?_⟩⟩
  exact h2 (x :: y) G2 H2 (Ext.refl _ _) R2 (.sh (p1.mono e2.gg) p2)
theorem dag_io (i : Nat) {x : Str} {p2 : Pos} (hr : DAg X cc es dr) (hN : X.N[i]? = some x := by rfl) (hv : Vis X.env.scope x := by first | exact Or.inl rfl | exact Or.inr (Or.inl rfl) | exact Or.inr (Or.inr rfl)) (hd : (x == ("__debug__" : Str)) = false := by decide)
    (hcd : (x == ("__classdict__" : Str)) = false := by decide) (hs : starEach (.Name x p2 :: es) X.env = (false, eval (.Name x p2) X.env) :: starEach es X.env := by rfl) : DAg X cc (.Name x p2 :: es) (aIo i dr) := by
  refine PA.imp (pa_cons (pe_var hN hv hd hcd) hr hs) fun σ H Q ⟨B, ρ, G, R0, h⟩ => ?_
  unfold aIo at h
  split at h
  rotate_left
  · exact h.elim
  rename_i m e
  obtain ⟨q, hq, _⟩ := R0.ow i m e
  refine ⟨_, hq, B, ρ, G, R0, Post.bind (V2 := fun G' vs as => AgR X.K cc.C σ G' vs as) h fun d2 ρ2 G2 H2 y e2 R2 p2 h2 => ?_⟩
  exact h2 (.ref q :: y) G2 H2 (Ext.refl _ _) R2 (.io hq p2)
/-- the arguments' data at the call -/
def reso (ρ : ENV) : List Ag → Option (List DV)
  | [] => some []
  | .inl d :: r => (reso ρ r).map (.sh d :: ·)
  | .inr i :: r => match ρ[i]? with
    | some (some (.ow m)) => (reso ρ r).map (.ow m :: ·)
    | _ => none
def slots : List Ag → List Nat
  | [] => []
  | .inl _ :: r => slots r
  | .inr i :: r => i :: slots r
def putB : List Ag → List M → ENV → Option ENV
  | [], [], ρ => some ρ
  | .inl _ :: r, ms, ρ => putB r ms ρ
  | .inr i :: r, m :: ms, ρ => putB r ms (ρ.set i (some (.ow m)))
  | _, _, _ => none
def nodupB : List Nat → Bool
  | [] => true
  | i :: r => !r.contains i && nodupB r
def stepR (F : List DV → FO) (as : List Ag) (ρ : ENV) : R DV := match (if nodupB (slots as) = true then reso ρ as else none) with
  | some ds => match F ds with
    | .ok v ms => match putB as ms ρ with | some ρ2 => .ok v ρ2 | none => .bot
    | .exc e ms => match putB as ms ρ with | some ρ2 => .exc e ρ2 | none => .bot
    | .bot => .bot
  | none => .bot
def PostV (K : PySem.W.Frag) (cc : Cc) (B G : Hp) (σ : St) (Q : V → Hp → Prop) (r : R DV) : Prop := match r with
  | .ok (.sh d) ρ' => ∀ x G' H', Ext B G G' → Rl K cc B ρ' σ G' H' → Rp K cc.C G' x d → Q x H'
  | .ok (.ow m) ρ' => ∀ p G' H', Ext B G G' → Rl K cc B ρ' σ G' H' → Own K cc.C B G' H' p m → NotAt ρ' σ p → Q (.ref p) H'
  | .exc e ρ' => ∀ cl dd G' H', Ext B G G' → Rl K cc B ρ' σ G' H' → ERp K cc.C G' e cl dd → cc.W cl dd σ H'
  | .bot => False
def onSh : DV → ENV → R D
  | .sh d, ρ => .ok d ρ
  | .ow _, _ => .bot
def onOw : DV → ENV → R M
  | .sh _, _ => .bot
  | .ow m, ρ => .ok m ρ
theorem PostV.sh {K : PySem.W.Frag} {cc : Cc} {B G : Hp} {σ : St} {Q : V → Hp → Prop} {r : R DV} (h : Post K cc (Rp K cc.C) B G σ Q (r.bind onSh)) : PostV K cc B G σ Q r := by
  cases r with
  | ok v ρ => cases v with
    | sh d => exact h
    | ow m => exact h.elim
  | exc e ρ => exact h
  | bot => exact h
theorem PostV.ow {K : PySem.W.Frag} {cc : Cc} {B G : Hp} {σ : St} {Q : V → Hp → Prop} {r : R DV} (h : PostF K cc B G σ Q (r.bind onOw)) : PostV K cc B G σ Q r := by
  cases r with
  | ok v ρ => cases v with
    | sh d => exact h.elim
    | ow m => exact h
  | exc e ρ => exact h
  | bot => exact h
/-- the addresses at the slots -/
def addrAt (σ : St) (i : Nat) : Option Addr := match σ[i]? with
  | some (some (V.ref p)) => some p
  | _ => none
def addrs (σ : St) (as : List Ag) : List Addr := (slots as).filterMap (addrAt σ)
theorem mem_addrs {σ : St} {as : List Ag} {p : Addr} : p ∈ addrs σ as ↔ ∃ i, i ∈ slots as ∧ σ[i]? = some (some (.ref p)) := by
  unfold addrs
  rw [List.mem_filterMap]
  constructor
  · rintro ⟨i, hi, e⟩
    refine ⟨i, hi, ?_⟩
    unfold addrAt at e
    split at e
    · cases e; assumption
    · cases e
  · rintro ⟨i, hi, e⟩
    exact ⟨i, hi, by unfold addrAt; rw [e]⟩
/-- what the callee is to keep -/
def keepB (H : Hp) (σ : St) (as : List Ag) : Hp := fun b => if b ∈ addrs σ as then none else H b
section
variable {K : PySem.W.Frag} {B G H G' H' : Hp} {ρ ρ2 : ENV} {σ : St}
theorem keepB_same : Same (keepB H σ as) H := fun b u e => by
  unfold keepB at e
  split at e
  · cases e
  · exact e
theorem keepB_in {p : Addr} (h : p ∈ addrs σ as) : keepB H σ as p = none := by unfold keepB; rw [if_pos h]
theorem keepB_out {p : Addr} (h : p ∉ addrs σ as) : keepB H σ as p = H p := by unfold keepB; rw [if_neg h]
/-- the arguments as the callee sees them -/
theorem ar_of (R : Rl K cc B ρ σ G H) (B' : Hp) {vs : List V} {as : List Ag} (r : AgR K cc.C σ G vs as) : ∀ {ds : List DV}, (∀ p, (∃ i, i ∈ slots as ∧ σ[i]? = some (some (V.ref p))) → B' p = none) → reso ρ as = some ds → AR K cc.C B' G H vs ds := by
  induction r with
  | nil => intro ds _ e; cases e; exact .nil
  | @sh v d vs as h r ih =>
    intro ds hb e
    unfold reso at e
    cases hr : reso ρ as with
    | none => rw [hr] at e; cases e
    | some ds' => rw [hr] at e; cases e; exact AR.sh h (ih hb hr)
  | @io p i vs as h r ih =>
    intro ds hb e
    unfold reso at e
    split at e
    · rename_i m hm
      cases hr : reso ρ as with
      | none => rw [hr] at e; cases e
      | some ds' =>
        rw [hr] at e; cases e
        obtain ⟨p', h1, o⟩ := R.ow i m hm
        rw [h] at h1; cases h1
        exact AR.ow ⟨hb p ⟨i, List.mem_cons_self, h⟩, o.ng, o.at_⟩ (ih (fun p ⟨j, hj, q⟩ => hb p ⟨j, List.mem_cons_of_mem _ hj, q⟩) hr)
    · cases e
/-- an owned argument comes from an owned slot -/
theorem slot_of {vs : List V} {as : List Ag} {ds : List DV} (r : AgR K cc.C σ G vs as) (e : reso ρ as = some ds) : ∀ {j : Nat} {m : M}, ds[j]? = some (.ow m) → ∃ i p, as[j]? = some (.inr i) ∧ i ∈ slots as ∧ ρ[i]? = some (some (.ow m)) ∧ vs[j]? = some (.ref p) ∧ σ[i]? = some (some (.ref p)) := by
  induction r generalizing ds with
  | nil => intro j m h; cases e; simp at h
  | @sh v d vs as h r ih =>
    intro j m hj
    unfold reso at e
    cases hr : reso ρ as with
    | none => rw [hr] at e; cases e
    | some ds' =>
      rw [hr] at e; cases e
      cases j with
      | zero => simp at hj
      | succ j =>
        obtain ⟨i, p, h1, h2, h3, h4, h5⟩ := ih hr (j := j) (m := m) (by simpa using hj)
        exact ⟨i, p, by simpa using h1, h2, h3, by simpa using h4, h5⟩
  | @io p i vs as h r ih =>
    intro j m hj
    unfold reso at e
    split at e
    · rename_i m0 hm
      cases hr : reso ρ as with
      | none => rw [hr] at e; cases e
      | some ds' =>
        rw [hr] at e; cases e
        cases j with
        | zero => simp at hj; subst hj; exact ⟨i, p, rfl, List.mem_cons_self, hm, rfl, h⟩
        | succ j =>
          obtain ⟨i', p', h1, h2, h3, h4, h5⟩ := ih hr (j := j) (m := m) (by simpa using hj)
          exact ⟨i', p', by simpa using h1, List.mem_cons_of_mem _ h2, h3, by simpa using h4, h5⟩
    · cases e
theorem slots_at : ∀ {as : List Ag} {j j' i : Nat}, nodupB (slots as) = true → as[j]? = some (.inr i) → as[j']? = some (.inr i) → j = j'
  | [], j, j', i, _, h, _ => by simp at h
  | .inl d :: r, j, j', i, hn, h, h' => by
    cases j with
    | zero => simp at h
    | succ j => cases j' with
      | zero => simp at h'
      | succ j' => rw [slots_at (as := r) (j := j) (j' := j') (i := i) hn (by simpa using h) (by simpa using h')]
  | .inr k :: r, j, j', i, hn, h, h' => by
    have hn' : (!(slots r).contains k && nodupB (slots r)) = true := hn
    rw [Bool.and_eq_true, Bool.not_eq_true'] at hn'
    have nk : ∀ j : Nat, r[j]? = some (.inr k) → False := fun j h => by
      have : ∀ (r : List Ag) (j : Nat), r[j]? = some (.inr k) → k ∈ slots r := by
        intro r
        induction r with
        | nil => intro j h; simp at h
        | cons a r ih =>
          intro j h
          cases j with
          | zero => simp at h; subst h; exact List.mem_cons_self
          | succ j =>
            have := ih j (by simpa using h)
            cases a with
            | inl d => exact this
            | inr i => exact List.mem_cons_of_mem _ this
      have := this r j h
      have := hn'.1
      simp at this
      exact this ‹_›
    cases j with
    | zero =>
      simp at h; subst h
      cases j' with
      | zero => rfl
      | succ j' => exact (nk j' (by simpa using h')).elim
    | succ j => cases j' with
      | zero => simp at h'; subst h'; exact (nk j (by simpa using h)).elim
      | succ j' => rw [slots_at (as := r) (j := j) (j' := j') (i := i) hn'.2 (by simpa using h) (by simpa using h')]
/-- behind the call: one owned slot after another -/
theorem put_ok {vs : List V} {as : List Ag} (r : AgR K cc.C σ G vs as) : ∀ {ds : List DV} {ms : List M} {ρ ρ2 ρs : ENV}, reso ρs as = some ds → Outs K cc.C B G' H' vs ds ms → putB as ms ρ = some ρ2 → nodupB (slots as) = true →
    ρ2.length = ρ.length ∧ (∀ i, i ∉ slots as → ρ2[i]? = ρ[i]?) ∧ ∀ i, i ∈ slots as → i < ρ.length → ∃ m p, ρ2[i]? = some (some (DV.ow m)) ∧ σ[i]? = some (some (V.ref p)) ∧ Own K cc.C B G' H' p m := by
  induction r with
  | nil =>
    intro ds ms ρ ρ2 ρs e o h hn
    cases e
    cases o
    cases h
    exact ⟨rfl, fun _ _ => rfl, fun i hi => by cases hi⟩
  | @sh v d vs as h r ih =>
    intro ds ms ρ ρ2 ρs e o hp hn
    unfold reso at e
    cases hr : reso ρs as with
    | none => rw [hr] at e; cases e
    | some ds' =>
      rw [hr] at e; cases e
      cases o with
      | sh o => exact ih hr o hp hn
  | @io p i vs as h r ih =>
    intro ds ms ρ ρ2 ρs e o hp hn
    have hn' : (!(slots as).contains i && nodupB (slots as)) = true := hn
    rw [Bool.and_eq_true, Bool.not_eq_true'] at hn'
    have ni : i ∉ slots as := fun z => by
      have := hn'.1
      simp at this
      exact this z
    unfold reso at e
    split at e
    · rename_i m0 hm
      cases hr : reso ρs as with
      | none => rw [hr] at e; cases e
      | some ds' =>
        rw [hr] at e; cases e
        cases o with
        | ow ho o =>
          rename_i m' ms'
          obtain ⟨h1, h2, h3⟩ := ih hr o (show putB as ms' (ρ.set i (some (.ow m'))) = some ρ2 from hp) hn'.2
          rw [List.length_set] at h1
          refine ⟨h1, fun j hj => ?_, fun j hj hl => ?_⟩
          · have h4 : j ≠ i := fun z => hj (by rw [z]; exact List.mem_cons_self)
            rw [h2 j fun z => hj (List.mem_cons_of_mem _ z), List.getElem?_set_ne (Ne.symm h4)]
          · by_cases q : j = i
            · subst q
              exact ⟨m', p, by rw [h2 j ni, List.getElem?_set_self hl], h, ho⟩
            · rcases List.mem_cons.mp hj with z | z
              · exact absurd z q
              · exact h3 j z (by rw [List.length_set]; exact hl)
    · cases e
/-- the caller behind the call -/
theorem Rl.called (R : Rl K cc B ρ σ G H) {vs : List V} {as : List Ag} {ds : List DV} {ms : List M} (ag : AgR K cc.C σ G vs as) (he : reso ρ as = some ds) (hn : nodupB (slots as) = true) (hp : putB as ms ρ = some ρ2) (ho : ∀ i ∈ slots as, ∃ m, ρ[i]? = some (some (.ow m)))
    (ex : Ext (keepB H σ as) G G') (kp : Same (keepB H σ as) H') (gk : Same G' H') (os : Outs K cc.C (keepB H σ as) G' H' vs ds ms) : Ext B G G' ∧ Rl K cc B ρ2 σ G' H' := by
  have own : ∀ p, p ∈ addrs σ as → B p = none ∧ G p = none := fun p hp => by
    obtain ⟨i, hi, e⟩ := mem_addrs.mp hp
    obtain ⟨m, hm⟩ := ho i hi
    obtain ⟨p', h1, o⟩ := R.ow i m hm
    rw [e] at h1; cases h1
    exact ⟨o.nb, o.ng⟩
  have kb : ∀ b, keepB H σ as b = none → B b = none := fun b h => by
    by_cases q : b ∈ addrs σ as
    · exact (own b q).1
    · rw [keepB_out q] at h; exact R.bk.free h
  obtain ⟨h1, h2, h3⟩ := put_ok ag he os hp hn
  have old : ∀ {i : Nat} {m : M}, ρ2[i]? = some (some (.ow m)) → (i ∈ slots as ∧ ∃ m0, ρ[i]? = some (some (.ow m0))) ∨ (i ∉ slots as ∧ ρ[i]? = some (some (.ow m))) := fun {i m} e => by
    by_cases q : i ∈ slots as
    · exact .inl ⟨q, ho i q⟩
    · exact .inr ⟨q, by rw [← h2 i q]; exact e⟩
  refine ⟨⟨ex.gg, fun a u e => ?_⟩, ⟨fun b u e => ?_, gk, by rw [h1]; exact R.ln, fun i d e => ?_, fun i m e => ?_, fun i j m m' p e1 e2 e3 e4 => ?_, R.pa⟩⟩
  · rcases ex.nb a u e with h | h
    · exact .inl h
    · exact .inr (kb a h)
  · refine kp b u ?_
    have q : b ∉ addrs σ as := fun z => by rw [(own b z).1] at e; cases e
    rw [keepB_out q]; exact R.bk b u e
  · by_cases q : i ∈ slots as
    · obtain ⟨m, hm⟩ := ho i q
      obtain ⟨m', p, h4, _⟩ := h3 i q (List.getElem?_eq_some_iff.mp hm).1
      rw [h4] at e; cases e
    · rw [h2 i q] at e
      obtain ⟨v, h4, h5⟩ := R.sh i d e
      exact ⟨v, h4, h5.mono ex.gg⟩
  · by_cases q : i ∈ slots as
    · obtain ⟨m0, hm⟩ := ho i q
      obtain ⟨m', p, h4, h5, h6⟩ := h3 i q (List.getElem?_eq_some_iff.mp hm).1
      rw [h4] at e; cases e
      exact ⟨p, h5, (own p (mem_addrs.mpr ⟨i, q, h5⟩)).1, h6.ng, h6.at_⟩
    · rw [h2 i q] at e
      obtain ⟨p, h4, o⟩ := R.ow i m e
      have np : p ∉ addrs σ as := fun z => by
        obtain ⟨j, hj, ej⟩ := mem_addrs.mp z
        obtain ⟨m0, hm⟩ := ho j hj
        exact q (by rw [R.df i j m m0 p e hm h4 ej]; exact hj)
      obtain ⟨x, hx, hm⟩ := o.at_
      refine ⟨p, h4, o.nb, ?_, x, kp p x (by rw [keepB_out np]; exact hx), hm.mono ex.gg⟩
      cases hg : G' p with
      | none => rfl
      | some u =>
        rcases ex.nb p u hg with h | h
        · rw [o.ng] at h; cases h
        · rw [keepB_out np, hx] at h; cases h
  · have g : ∀ {i : Nat} {m : M}, ρ2[i]? = some (some (.ow m)) → ∃ m0, ρ[i]? = some (some (.ow m0)) := fun {i m} e => by
      rcases old e with ⟨_, h⟩ | ⟨_, h⟩
      · exact h
      · exact ⟨m, h⟩
    obtain ⟨m1, q1⟩ := g e1
    obtain ⟨m2, q2⟩ := g e2
    exact R.df i j m1 m2 p q1 q2 e3 e4
theorem reso_own : ∀ {as : List Ag} {ds : List DV}, reso ρ as = some ds → ∀ i ∈ slots as, ∃ m, ρ[i]? = some (some (.ow m))
  | [], _, _, i, h => by cases h
  | .inl d :: r, ds, e, i, h => by
    unfold reso at e
    cases hr : reso ρ r with
    | none => rw [hr] at e; cases e
    | some ds' => exact reso_own hr i h
  | .inr k :: r, ds, e, i, h => by
    unfold reso at e
    split at e
    · rename_i m hm
      rcases List.mem_cons.mp h with z | z
      · subst z; exact ⟨m, hm⟩
      · cases hr : reso ρ r with
        | none => rw [hr] at e; cases e
        | some ds' => exact reso_own hr i z
    · cases e
/-- THE STEP: the callee's promise gives what the caller's reading wants -/
theorem call_core (F : List DV → FO) {n : Nat} {Q : V → Hp → Prop} {vs : List V} {as : List Ag} (R : Rl K cc B ρ σ G H) (ag : AgR K cc.C σ G vs as) (hl : vs.length = n)
    (h : PostV K cc B G σ Q (stepR F as ρ)) : spF K cc.C n F vs H Q (WE cc.W σ) := by
  unfold stepR at h
  by_cases hn : nodupB (slots as) = true
  rotate_left
  · rw [if_neg hn] at h; exact h.elim
  rw [if_pos hn] at h
  cases he : reso ρ as with
  | none => rw [he] at h; exact h.elim
  | some ds => ?_
  rw [he] at h
  dsimp only at h
  have ho := reso_own he
  have knb : ∀ p, (∃ i, i ∈ slots as ∧ σ[i]? = some (some (.ref p))) → keepB H σ as p = none := fun p hp => keepB_in (mem_addrs.mpr hp)
  refine ⟨ds, keepB H σ as, G, hl, keepB_same, R.gk, ar_of R _ ag knb he, fun i j m m' p e1 e2 e3 e4 => ?_, ?_⟩
  · obtain ⟨i1, p1, a1, s1, r1, v1, g1⟩ := slot_of ag he e1
    obtain ⟨i2, p2, a2, s2, r2, v2, g2⟩ := slot_of ag he e2
    rw [v1] at e3; cases e3
    rw [v2] at e4; cases e4
    have := R.df i1 i2 m m' _ r1 r2 g1 g2
    subst this
    exact slots_at hn a1 a2
  · cases hF : F ds with
    | bot => rw [hF] at h; exact h
    | exc e ms =>
      rw [hF] at h
      dsimp only at h
      refine fun cl dd G' H' ex kp gk os er => ?_
      cases hp : putB as ms ρ with
      | none => rw [hp] at h; exact h.elim
      | some ρ2 =>
        rw [hp] at h
        obtain ⟨ex', R'⟩ := R.called ag he hn hp ho ex kp gk os
        exact h cl dd G' H' ex' R' er
    | ok v ms =>
      rw [hF] at h
      dsimp only at h
      refine fun x G' H' ex kp gk os hv => ?_
      cases hp : putB as ms ρ with
      | none => rw [hp] at h; exact h.elim
      | some ρ2 =>
        rw [hp] at h
        obtain ⟨ex', R'⟩ := R.called ag he hn hp ho ex kp gk os
        cases v with
        | sh d => exact h x G' H' ex' R' hv
        | ow m =>
          obtain ⟨p, rfl, o, nf⟩ := hv
          have nb := o.nb
          -- p is no slot's object
          have notArg : p ∉ addrs σ as := fun z => by
            obtain ⟨i, hi, e⟩ := mem_addrs.mp z
            have find : ∀ {vs : List V} {as : List Ag} {ds : List DV}, AgR K cc.C σ G vs as → reso ρ as = some ds → i ∈ slots as → ∃ (j : Nat) (m : M), ds[j]? = some (DV.ow m) ∧ vs[j]? = some (V.ref p) := by
              intro vs as ds r
              induction r generalizing ds with
              | nil => intro _ h; cases h
              | @sh v d vs as h r ih =>
                intro e2 h2
                unfold reso at e2
                cases hr : reso ρ as with
                | none => rw [hr] at e2; cases e2
                | some ds' =>
                  rw [hr] at e2; cases e2
                  obtain ⟨j, m, q1, q2⟩ := ih hr h2
                  exact ⟨j + 1, m, by simpa using q1, by simpa using q2⟩
              | @io p' i' vs as h r ih =>
                intro e2 h2
                unfold reso at e2
                split at e2
                · rename_i m0 hm
                  cases hr : reso ρ as with
                  | none => rw [hr] at e2; cases e2
                  | some ds' =>
                    rw [hr] at e2; cases e2
                    rcases List.mem_cons.mp h2 with z | z
                    · subst z
                      rw [e] at h; cases h
                      exact ⟨0, m0, rfl, rfl⟩
                    · obtain ⟨j, m, q1, q2⟩ := ih hr z
                      exact ⟨j + 1, m, by simpa using q1, by simpa using q2⟩
                · cases e2
            obtain ⟨j, m, q1, q2⟩ := find ag he hi
            exact nf j m q1 q2
          rw [keepB_out notArg] at nb
          refine h p G' H' ex' R' ⟨R.bk.free nb, o.ng, o.at_⟩ fun i m' e z => ?_
          obtain ⟨p', h1, o'⟩ := R'.ow i m' e
          rw [z] at h1; cases h1
          -- the slot i was owned ahead of the call, and its object stood there
          have : ∃ m0, ρ[i]? = some (some (.ow m0)) := by
            by_cases q : i ∈ slots as
            · exact ho i q
            · obtain ⟨_, h2, _⟩ := put_ok ag he os hp hn
              exact ⟨m', by rw [← h2 i q]; exact e⟩
          obtain ⟨m0, hm0⟩ := this
          obtain ⟨p2, h3, o2⟩ := R.ow i m0 hm0
          rw [z] at h3; cases h3
          obtain ⟨y, hy, _⟩ := o2.at_
          rw [nb] at hy; cases hy
end
/-! ### f(..) -/
structure Callee (X : Cx) (cc : Cc) (x : Str) (n : Nat) (F : List DV → FO) : Prop where
  ex : ∃ (f : Addr) (fd : FuncData) (ps : List Str) (k : Nat), ps.length = n ∧ FnOk X.prog X.w X.K X.mg X.base (L2.CX X.prog X.w) k f fd ps (spF X.K cc.C n F) ∧ Room k X.A ∧ X.mg x = some (.ref f) ∧ PySem.W.keepIn X.K (.ref f) = true ∧ Binds X.K fd ps []
def dCall (F : List DV → FO) (dr : ENV → R (List Ag)) : ENV → R D := fun ρ => ((dr ρ).bind (stepR F)).bind onSh
def fCall (F : List DV → FO) (dr : ENV → R (List Ag)) : ENV → R M := fun ρ => ((dr ρ).bind (stepR F)).bind onOw
theorem AgR.length {K : PySem.W.Frag} {C : Nat → Addr} {σ : St} {G : Hp} : ∀ {vs : List V} {as : List Ag}, AgR K C σ G vs as → vs.length = as.length
  | _, _, .nil => rfl
  | _, _, .sh _ r => congrArg (· + 1) r.length
  | _, _, .io _ r => congrArg (· + 1) r.length
/-- n arguments come -/
def Many (n : Nat) (dr : ENV → R (List Ag)) : Prop := ∀ ρ as ρ1, dr ρ = .ok as ρ1 → as.length = n
theorem many_nil : Many 0 aNil := fun ρ as ρ1 e => by cases e; rfl
theorem many_val {n : Nat} (h : Many n dr) : Many (n + 1) (aVal da dr) := fun ρ as ρ1 e => by
  dsimp only [aVal] at e
  cases hd : da ρ with
  | ok d ρ2 =>
    rw [hd] at e
    dsimp only [R.bind] at e
    cases hr : dr ρ2 with
    | ok as' ρ3 => rw [hr] at e; cases e; exact congrArg (· + 1) (h _ _ _ hr)
    | exc _ _ => rw [hr] at e; cases e
    | bot => rw [hr] at e; cases e
  | exc _ _ => rw [hd] at e; cases e
  | bot => rw [hd] at e; cases e
theorem many_io {n i : Nat} (h : Many n dr) : Many (n + 1) (aIo i dr) := fun ρ as ρ1 e => by
  dsimp only [aIo] at e
  split at e
  · cases hr : dr ρ with
    | ok as' ρ3 => rw [hr] at e; cases e; exact congrArg (· + 1) (h _ _ _ hr)
    | exc _ _ => rw [hr] at e; cases e
    | bot => rw [hr] at e; cases e
  · cases e
variable {x : Str} {F : List DV → FO} {n : Nat}
theorem PostV.ext {K : PySem.W.Frag} {cc : Cc} {B G G1 : Hp} {σ : St} {Q : V → Hp → Prop} {r : R DV} (h : PostV K cc B G σ Q r) (x : Ext B G G1) : PostV K cc B G1 σ Q r := by
  cases r with
  | ok v ρ => cases v with
    | sh d => exact fun v G' H' e => h v G' H' (x.trans e)
    | ow m => exact fun v G' H' e => h v G' H' (x.trans e)
  | exc e ρ => exact fun cl dd G' H' e => h cl dd G' H' (x.trans e)
  | bot => exact h
theorem call_read {σ : St} {H : Hp} {Q : V → Hp → Prop} (hn : Many n dr) {B G : Hp} {ρ : ENV} (R0 : Rl X.K cc B ρ σ G H) (h : PostV X.K cc B G σ Q ((dr ρ).bind (stepR F))) : tCallS (spF X.K cc.C n F) (WE cc.W) (rAg X.K cc dr) σ H Q := by
  refine ⟨B, ρ, G, R0, ?_⟩
  cases hd : dr ρ with
  | exc e ρ1 => rw [hd] at h; exact h
  | bot => rw [hd] at h; exact h
  | ok as ρ1 =>
    rw [hd] at h
    intro vs G1 H1 e1 R1 ag
    exact call_core F R1 ag (ag.length.trans (hn ρ as ρ1 hd)) (PostV.ext h e1)
theorem pe_callS0 {CX : CXT} {k : Nat} {f : Addr} {fd : FuncData} {ps : List Str} {sp : Sp} {E : St → XK} (F : FnOk X.prog X.w X.K X.mg X.base CX k f fd ps sp) (hr : Room k X.A) (hg : Gl X x) (hm : X.mg x = some (.ref f)) (hk : PySem.W.keepIn X.K (.ref f) = true) (hb : Binds X.K fd ps []) (hx : ∀ σ, PassesAt CX X σ (E σ))
    (hdb : (x == ("__debug__" : Str)) = false := by decide) : PE X (.Call (.Name x p) [] [] pos) (tCallS sp E tNil) := by
  refine ⟨fun pins s σ H Q I h => ?_⟩
  refine wpAny_Call_Name_kw (ld_glob I hg hm ?_ hdb)
  exact PySem.W.callWith_K0 I.kIn hk (run_fnS (us := []) F hr hb (hx σ) I .nil h)
theorem pe_callR {e : Expr} {es : List Expr} (c : Callee X cc x n F) (tk : Takes X cc.W) (ha : DAg X cc (e :: es) dr) (hg : Gl X x)
    (hdb : (x == ("__debug__" : Str)) = false := by decide) (he : starEach (e :: es) X.env = (false, eval e X.env) :: starEach es X.env := by rfl) (hpl : (backTo pos (starEach es X.env)).any (·.1) = false := by rfl) :
    PE X (.Call (.Name x p) (e :: es) [] pos) (tCallS (spF X.K cc.C n F) (WE cc.W) (rAg X.K cc dr)) := by
  obtain ⟨f, fd, ps, k, hps, G, hr, hm, hk, hb⟩ := c.ex
  exact pe_callS G hr hg hm hk hb (fun σ => passAt tk σ) ha hdb he hpl
theorem de_call {e : Expr} {es : List Expr} (c : Callee X cc x n F) (tk : Takes X cc.W) (ha : DAg X cc (e :: es) dr) (hn : Many n dr) (hg : Gl X x := by rfl)
    (hdb : (x == ("__debug__" : Str)) = false := by decide) (he : starEach (e :: es) X.env = (false, eval e X.env) :: starEach es X.env := by rfl) (hpl : (backTo pos (starEach es X.env)).any (·.1) = false := by rfl) :
    DE X cc (.Call (.Name x p) (e :: es) [] pos) (dCall F dr) := PE.imp (pe_callR c tk ha hg hdb he hpl) fun σ H Q ⟨B, ρ, G, R0, h⟩ => call_read hn R0 (PostV.sh h)
theorem df_call {e : Expr} {es : List Expr} (c : Callee X cc x n F) (tk : Takes X cc.W) (ha : DAg X cc (e :: es) dr) (hn : Many n dr) (hg : Gl X x := by rfl)
    (hdb : (x == ("__debug__" : Str)) = false := by decide) (he : starEach (e :: es) X.env = (false, eval e X.env) :: starEach es X.env := by rfl) (hpl : (backTo pos (starEach es X.env)).any (·.1) = false := by rfl) :
    DF X cc (.Call (.Name x p) (e :: es) [] pos) (fCall F dr) := PE.imp (pe_callR c tk ha hg hdb he hpl) fun σ H Q ⟨B, ρ, G, R0, h⟩ => call_read hn R0 (PostV.ow h)
theorem pe_callR0 (c : Callee X cc x 0 F) (tk : Takes X cc.W) (hg : Gl X x) (hdb : (x == ("__debug__" : Str)) = false := by decide) :
    PE X (.Call (.Name x p) [] [] pos) (tCallS (spF X.K cc.C 0 F) (WE cc.W) tNil) := by
  obtain ⟨f, fd, ps, k, hps, G, hr, hm, hk, hb⟩ := c.ex
  exact pe_callS0 G hr hg hm hk hb (fun σ => passAt tk σ) hdb
theorem call_read0 {σ : St} {H : Hp} {Q : V → Hp → Prop} {B G : Hp} {ρ : ENV} (R0 : Rl X.K cc B ρ σ G H) (h : PostV X.K cc B G σ Q (stepR F [] ρ)) : tCallS (spF X.K cc.C 0 F) (WE cc.W) tNil σ H Q :=
  call_core F R0 .nil rfl h
theorem de_call0 (c : Callee X cc x 0 F) (tk : Takes X cc.W) (hg : Gl X x := by rfl) (hdb : (x == ("__debug__" : Str)) = false := by decide) : DE X cc (.Call (.Name x p) [] [] pos) (dCall F aNil) :=
  PE.imp (pe_callR0 c tk hg hdb) fun σ H Q ⟨B, ρ, G, R0, h⟩ => call_read0 R0 (PostV.sh h)
theorem df_call0 (c : Callee X cc x 0 F) (tk : Takes X cc.W) (hg : Gl X x := by rfl) (hdb : (x == ("__debug__" : Str)) = false := by decide) : DF X cc (.Call (.Name x p) [] [] pos) (fCall F aNil) :=
  PE.imp (pe_callR0 c tk hg hdb) fun σ H Q ⟨B, ρ, G, R0, h⟩ => call_read0 R0 (PostV.ow h)
end
end Rf
set_option Elab.async false
set_option linter.all false
set_option maxRecDepth 100000
/-! Rf: raise, try -/
namespace Rf
open PySem PySem.Spec L2
section
variable {X : Cx} {cc : Cc} {pos p : Pos}
/-- X() of an own exception class without __init__ -/
theorem pmk_own0 {C : Addr} {bmB : List Value} {B newId initId : String} {x : Str} (F : ExcBaseFacts B newId initId bmB) (q : PySem.W.excIn X.K C bmB newId = true) (gC : X.mg x = some (.ref C)) (kC : PySem.W.keepIn X.K (.ref C) = true) (r : Raises X (.ref C)) (hg : Gl X x)
    (hdb : (x == ("__debug__" : Str)) = false := by decide) : PMk X (.Call (.Name x p) [] [] pos) (fun _ H Q => Q (.ref C) none H) := by
  intro pins s σ H Q I h
  refine wpAny_Call_Name_kw (ld_glob I hg gC ?_ hdb)
  refine PySem.W.callWith_K0 I.kIn kC ?_
  obtain ⟨bm, N, nm, qn, bs, hdct, sn, sub, ab, col, dd, k0, k1, k2, k3, k5, mN, hC, hN, hni, T⟩ := exc_obj I.kIn q
  refine wpAny_call_exc_subT F T hC hN hni (fun h' e hm => ?_) (by show 0 ≤ sizeLine; exact Nat.zero_le _)
  exact mk_of I hm r h (I.hok.gone hm.new)
def sRaise (e : EX) : ENV → R Fl := fun ρ => .exc e ρ
theorem ds_raise0 {c : Nat} {e : Expr} (hc : X.calm = true) (tk : Takes X cc.W) (hm : PMk X e (fun _ H Q => Q (.ref (cc.C c)) none H)) : DS X cc (.Raise (some e) none pos) (sRaise ⟨c, []⟩) :=
  PS.imp (ps_raise hc tk hm) fun Dn σ H ⟨B, ρ, G, R0, h⟩ => h (.ref (cc.C c)) none σ G H (Ext.refl _ _) R0 ⟨rfl, .inl ⟨rfl, rfl⟩⟩
theorem Rl.toW {K : PySem.W.Frag} {B : Hp} {ρ : ENV} {σ : St} {G H : Hp} (r : Rl K cc B ρ σ G H) (W : WX) : Rl K { cc with W := W } B ρ σ G H := ⟨r.bk, r.gk, r.ln, r.sh, r.ow, r.df, r.pa⟩
theorem Rl.ofW {K : PySem.W.Frag} {B : Hp} {ρ : ENV} {σ : St} {G H : Hp} {W : WX} (r : Rl K { cc with W := W } B ρ σ G H) : Rl K cc B ρ σ G H := ⟨r.bk, r.gk, r.ln, r.sh, r.ow, r.df, r.pa⟩
abbrev Cc.quiet (cc : Cc) : Cc := { cc with W := fun _ _ _ _ => False }
/-- behind a body that ends in order -/
theorem PostS.toW {K : PySem.W.Frag} {B G : Hp} {Dn : Ends} {r : R Fl} {W : WX} (h : PostS K cc B G Dn r) (hx : ∀ e ρ, r = .exc e ρ → ∀ cl dd σ' G' H', Ext B G G' → Rl K cc B ρ σ' G' H' → ERp K cc.C G' e cl dd → W cl dd σ' H') : PostS K { cc with W := W } B G Dn r := by
  cases r with
  | ok f ρ =>
    cases f with
    | nx => exact fun σ' G' H' e R => h σ' G' H' e R.ofW
    | bk => exact fun σ' G' H' e R => h σ' G' H' e R.ofW
    | ct => exact fun σ' G' H' e R => h σ' G' H' e R.ofW
    | ret v => cases v with
      | sh d => exact fun v σ' G' H' e R => h v σ' G' H' e R.ofW
      | ow m => exact fun v σ' G' H' e R => h v σ' G' H' e R.ofW
  | exc e ρ => exact fun cl dd σ' G' H' ex R => hx e ρ rfl cl dd σ' G' H' ex R.ofW
  | bot => exact h
/-- try: body, except class c: suite; sub: which classes stand under which -/
def sTry (sub : Nat → Nat → Option Bool) (sb : ENV → R Fl) (c : Nat) (ss : ENV → R Fl) : ENV → R Fl := fun ρ => match sb ρ with
  | .exc e ρ1 => match sub e.c c with
    | some true => match ss ρ1 with
      | .exc _ _ => .bot
      | r => r
    | some false => .exc e ρ1
    | none => .bot
  | r => r
variable {sub : Nat → Nat → Option Bool}
theorem ds_try {x : Str} {c : Nat} {body suite : List Stmt} {b0 : Stmt} {np pos' : Pos} {sb ss : ENV → R Fl} (hs : X.stack = X.env :: X.outer) (hf : X.env.frame = some X.env.locals) (hc : Names X x (.ref (cc.C c))) (tk : Takes X cc.W)
    (hsub : ∀ i j b, sub i j = some b → PySem.W.exmOne X.K (.ref (cc.C i)) (.ref (cc.C j)) = some b)
    (hb : ∀ (W : WX) (pn : List (Addr × Obj)) (xe : Value → Shared → Prop), Takes (X.tr pn xe) W → PassesOwn (model X.prog X.w) X.A X.env xe → DSs (X.tr pn xe) { cc with W := W } body sb)
    (hsu : ∀ (a : Addr) (oe : Obj) (pn : List (Addr × Obj)), DSs (X.suite a ((a, oe) :: pn)) cc.quiet (b0 :: suite) ss) :
    DS X cc (.Try body [.ExceptHandler (some (.Name x np)) none (b0 :: suite) pos'] [] [] pos) (sTry sub sb c ss) := by
  refine PS.imp (ps_try_only (tb := fun W => rS X.K { cc with W := W } sb) (ts := fun a cls d => rS X.K cc.quiet ss) hs hf hc tk (fun W pn xe tk' po => hb W pn xe tk' po) (fun a oe cls d pn _ _ => hsu a oe pn)) fun Dn σ H ⟨B, ρ, G, R0, h⟩ => ⟨B, ρ, G, R0.toW _, ?_⟩
  unfold sTry at h
  cases hr : sb ρ with
  | bot => rw [hr] at h; exact h
  | ok f ρ1 =>
    rw [hr] at h
    exact PostS.toW h fun e ρ q => by cases q
  | exc e ρ1 =>
    rw [hr] at h
    dsimp only at h
    refine fun cl dd σ' G' H' ex R er => ?_
    cases hq : sub e.c c with
    | none => rw [hq] at h; exact h.elim
    | some b =>
      rw [hq] at h
      have hm := hsub _ _ _ hq
      obtain ⟨rfl, _⟩ := id er
      refine ⟨b, hm, fun hb a _ => ?_, fun hb => ?_⟩
      · subst hb
        dsimp only at h
        refine ⟨B, ρ1, G', R.ofW.toW _, ?_⟩
        have h := PostS.ext h ex
        cases hss : ss ρ1 with
        | bot => rw [hss] at h; exact h
        | exc _ _ => rw [hss] at h; exact h.elim
        | ok f ρ2 => rw [hss] at h; exact PostS.toW h fun e ρ q => by cases q
      · subst hb
        exact h _ _ _ _ _ ex R.ofW er
end
end Rf
set_option Elab.async false
set_option linter.all false
set_option maxRecDepth 100000
/-! Rf: owned lists looked at; a program's defs -/
namespace Rf
open PySem PySem.Spec L2
section
variable {X : Cx} {cc : Cc} {e : Expr} {da db : ENV → R D} {pos p2 : Pos}
/-- xs[k] of an owned list -/
def dIxO (i : Nat) (dk : ENV → R D) : ENV → R D := fun ρ => match ρ[i]? with
  | some (some (.ow (.lst _))) => (dk ρ).bind fun k ρ1 => match k, ρ1[i]? with
    | .int k, some (some (.ow (.lst ds))) => R.of (atI ds k) ρ1
    | _, _ => .bot
  | _ => .bot
theorem de_ixO (i : Nat) {x : Str} {k : Expr} (hk : DE X cc k da) (hN : X.N[i]? = some x := by rfl) (hv : Vis X.env.scope x := by first | exact Or.inl rfl | exact Or.inr (Or.inl rfl) | exact Or.inr (Or.inr rfl)) (hd : (x == ("__debug__" : Str)) = false := by decide)
    (hcd : (x == ("__classdict__" : Str)) = false := by decide) (hs : PlainIx k := by intro _ _; rfl) : DE X cc (.Subscript (.Name x p2) k pos) (dIxO i da) := by
  refine PE.imp (pe_ix ix_list (pe_var hN hv hd hcd) hk hs) fun σ H Q ⟨B, ρ, G, R0, h⟩ => ?_
  unfold dIxO at h
  split at h
  rotate_left
  · exact h.elim
  rename_i ds0 e0
  obtain ⟨p, xs, hp, hx, _⟩ := R0.lstAt e0
  refine ⟨_, hp, B, ρ, G, R0, h.bind fun kd ρ1 G1 H1 kv e1 R1 p1 h1 => ?_⟩
  split at h1
  rotate_left
  · exact h1.elim
  rename_i k' ds e3
  cases p1 with
  | int k' =>
    obtain ⟨p', xs', hp', hx', rr⟩ := R1.lstAt e3
    rw [hp] at hp'; cases hp'
    cases ha : atI ds k' with
    | none => rw [ha] at h1; exact h1.elim
    | some d =>
      rw [ha] at h1
      obtain ⟨y, hy, py⟩ := rr.atI ha
      exact ⟨p, xs', k', y, rfl, rfl, .inl (.inl hx'), hy, h1 y G1 H1 (Ext.refl _ _) R1 py⟩
/-- len(xs) of an owned list -/
def dLenO (i : Nat) : ENV → R D := fun ρ => match ρ[i]? with
  | some (some (.ow (.lst ds))) => .ok (.int ds.length) ρ
  | _ => .bot
theorem de_lenO (i : Nat) {x : Str} {p : Pos} (hg : Gl X "len") (hm : X.mg "len" = none) (hN : X.N[i]? = some x := by rfl) (hv : Vis X.env.scope x := by first | exact Or.inl rfl | exact Or.inr (Or.inl rfl) | exact Or.inr (Or.inr rfl)) (hd : (x == ("__debug__" : Str)) = false := by decide)
    (hcd : (x == ("__classdict__" : Str)) = false := by decide) (he : starEach [.Name x p2] X.env = (false, eval (.Name x p2) X.env) :: starEach [] X.env := by rfl) (hpl : (backTo pos (starEach [] X.env)).any (·.1) = false := by rfl) :
    DE X cc (.Call (.Name "len" p) [.Name x p2] [] pos) (dLenO i) := by
  refine PE.imp (pe_callB cr_lenS hg hm PySem.boot_len (pa_cons (pe_var hN hv hd hcd) pa_nil he) (by decide) (by decide) he hpl) fun σ H Q ⟨B, ρ, G, R0, h⟩ => ?_
  unfold dLenO at h
  split at h
  · rename_i ds e
    obtain ⟨p, xs, hp, hx, rr⟩ := R0.lstAt e
    exact ⟨_, hp, .inl ⟨p, xs, rfl, .inl (.inl (.inl hx)), by rw [rr.length]; exact h (.int _) G H (Ext.refl _ _) R0 (.int _)⟩⟩
  · exact h.elim
/-- x in xs, xs owned -/
def dInO (neg : Bool) (da : ENV → R D) (i : Nat) : ENV → R D := fun ρ => (da ρ).bind fun x ρ1 => match ρ1[i]? with
  | some (some (.ow (.lst ds))) => R.of (vIn neg x (.lst ds)) ρ1
  | _ => .bot
theorem inO_core {neg : Bool} {i : Nat} : ∀ σ H Q, rE X.K cc (dInO neg da i) σ H Q → tOp (rInA X.K neg) (rE X.K cc da) (tVar i) σ H Q := by
  intro σ H Q ⟨B, ρ, G, R0, h⟩
  refine ⟨B, ρ, G, R0, h.bind fun d1 ρ1 G1 H1 x e1 R1 p1 h1 => ?_⟩
  split at h1
  rotate_left
  · exact h1.elim
  rename_i ds e
  obtain ⟨p, xs, hp, hx, rr⟩ := R1.lstAt e
  refine ⟨_, hp, ?_⟩
  dsimp only [vIn] at h1
  split at h1
  · rename_i hh
    exact .inl ⟨_, .list (toPyL ds), _, p1.dp R1.gk (SeqAt.canLay_of_shaped hh.1), .lst (.inl (.inl hx)) (rr.dp R1.gk hh.2), .inl rfl, hh.1, hh.2, h1 _ G1 H1 (Ext.refl _ _) R1 (.bl _)⟩
  · exact h1.elim
theorem de_inO (neg : Bool) (i : Nat) {x : Str} {a : Expr} (hu : X.A.units + 65 < cLine) (ha : DE X cc a da) (hN : X.N[i]? = some x := by rfl) (hv : Vis X.env.scope x := by first | exact Or.inl rfl | exact Or.inr (Or.inl rfl) | exact Or.inr (Or.inr rfl)) (hd : (x == ("__debug__" : Str)) = false := by decide)
    (hcd : (x == ("__classdict__" : Str)) = false := by decide) : DE X cc (.Compare a [if neg then .NotIn else .In] [.Name x p2] pos) (dInO neg da i) := by
  cases neg with
  | false => exact PE.imp (pe_cmpR (op_inA hu) ha (pe_var hN hv hd hcd) rfl) inO_core
  | true => exact PE.imp (pe_cmpR (op_notInA hu) ha (pe_var hN hv hd hcd) rfl) inO_core
theorem dt_inO (neg : Bool) (i : Nat) {x : Str} {a : Expr} (hu : X.A.units + 65 < cLine) (ha : DE X cc a da) (hN : X.N[i]? = some x := by rfl) (hv : Vis X.env.scope x := by first | exact Or.inl rfl | exact Or.inr (Or.inl rfl) | exact Or.inr (Or.inr rfl)) (hd : (x == ("__debug__" : Str)) = false := by decide)
    (hcd : (x == ("__classdict__" : Str)) = false := by decide) : DT X cc (.Compare a [if neg then .NotIn else .In] [.Name x p2] pos) (dT (dInO neg da i)) := by
  cases neg with
  | false => exact PT.imp (pt_cmpR (op_inA hu) ha (pe_var hN hv hd hcd) rfl) (test_core inO_core)
  | true => exact PT.imp (pt_cmpR (op_notInA hu) ha (pe_var hN hv hd hcd) rfl) (test_core inO_core)
/-- truth of an owned list -/
def dTruO (i : Nat) : ENV → R Bool := fun ρ => match ρ[i]? with
  | some (some (.ow (.lst ds))) => .ok (!ds.isEmpty) ρ
  | _ => .bot
theorem dt_truO (i : Nat) {x : Str} (hN : X.N[i]? = some x := by rfl) (hv : Vis X.env.scope x := by first | exact Or.inl rfl | exact Or.inr (Or.inl rfl) | exact Or.inr (Or.inr rfl)) (hd : (x == ("__debug__" : Str)) = false := by decide)
    (hcd : (x == ("__classdict__" : Str)) = false := by decide) : DT X cc (.Name x p2) (dTruO i) := by
  refine PT.imp (pt_truth (pe_var hN hv hd hcd) (by intro _; rfl)) fun σ H Q ⟨B, ρ, G, R0, h⟩ => ?_
  unfold dTruO at h
  split at h
  · rename_i ds e
    obtain ⟨p, xs, hp, hx, rr⟩ := R0.lstAt e
    exact ⟨_, hp, !ds.isEmpty, .inl ⟨xs, .inl (.inl hx), by rw [rr.empty]⟩, h _ G H (Ext.refl _ _) R0 rfl⟩
  · exact h.elim
/-- a constant of the module -/
structure GC (K : PySem.W.Frag) (mg : Str → Option Value) (C : Nat → Addr) (x : Str) (d : D) : Prop where
  ex : ∃ u v, mg x = some u ∧ RelV v u ∧ ∀ G, Rp K C G v d
def dG (d : D) : ENV → R D := fun ρ => .ok d ρ
theorem de_glob {x : Str} {d : D} (g : GC X.K X.mg cc.C x d) (hg : Gl X x := by rfl) (hd : (x == ("__debug__" : Str)) = false := by decide) : DE X cc (.Name x pos) (dC d) := by
  obtain ⟨u, v, h1, h2, h3⟩ := g.ex
  exact de_k (pe_glob hg h1 h2 hd) h3
end
/-- a def of the module as the top leaves it -/
structure Df (K : PySem.W.Frag) (mg : Str → Option Value) (x : Str) (st : Stmt) (ps : List Str) : Prop where
  ex : ∃ f fd, Fun K x x st f fd ∧ mg x = some (.ref f) ∧ ∀ us : List Value, us.length = ps.length → bindArgs fd ⟨us, []⟩ = pure (ps.zip us)
theorem df_mk {K : PySem.W.Frag} {h : Heap} {mg : Str → Option Value} {x : Str} {st : Stmt} {ps : List Str} {f : Addr} {oc : Value} {od an : Option Addr} {osl : Array (Option Value)} {kV doc pm cdv ct : Value} (X : K.In h) (G : h.Ns mainGlobals mg)
    (a : PySem.W.nsIn K mainGlobals x = some (some (.ref f))) (l : K.lookup f = some ⟨oc, od, .func (PySem.W.fnOf x x (defArgs st) (defBody st) (defScope st) .none kV doc pm an cdv ct), osl⟩)
    (c : PySem.W.codeIn K cdv x = true) (k : PySem.W.keepIn K (.ref f) = true) (hb : ∀ (kV doc pm : Value) (an : Option Addr) (cdv ct : Value) (us : List Value), us.length = ps.length → bindArgs (PySem.W.fnOf x x (defArgs st) (defBody st) (defScope st) .none kV doc pm an cdv ct) ⟨us, []⟩ = pure (ps.zip us)) : Df K mg x st ps := by
  have F := fun_mk (st := st) l c k
  exact ⟨f, _, F, PySem.W.mg_of X G a, fun us hl => hb _ _ _ _ _ _ us hl⟩
/-- a def that keeps the promise of F -/
structure Fk (P : Program) (w : World) (K : PySem.W.Frag) (mg : Str → Option Value) (base : Heap) (C : Nat → Addr) (x : Str) (n k : Nat) (F : List DV → FO) : Prop where
  ex : ∃ f fd ps, ps.length = n ∧ FnOk P w K mg base (L2.CX P w) k f fd ps (spF K C n F) ∧ mg x = some (.ref f) ∧ PySem.W.keepIn K (.ref f) = true ∧ Binds K fd ps []
theorem Fk.mono {P : Program} {w : World} {K : PySem.W.Frag} {mg : Str → Option Value} {base : Heap} {C : Nat → Addr} {x : Str} {n k k' : Nat} {F : List DV → FO} (h : Fk P w K mg base C x n k F) (hk : k ≤ k') : Fk P w K mg base C x n k' F := by
  obtain ⟨f, fd, ps, h1, h2, h3⟩ := h.ex
  exact ⟨f, fd, ps, h1, h2.mono hk, h3⟩
theorem Fk.callee {X : Cx} {cc : Cc} {x : Str} {n k : Nat} {F : List DV → FO} (h : Fk X.prog X.w X.K X.mg X.base cc.C x n k F) (hr : Room k X.A) : Callee X cc x n F := by
  obtain ⟨f, fd, ps, h1, h2, h3, h4, h5⟩ := h.ex
  exact ⟨f, fd, ps, k, h1, h2, hr, h3, h4, h5⟩
section
variable {P : Program} {w : World} {K : PySem.W.Frag} {mg : Str → Option Value} {base : Heap} {C : Nat → Addr}
theorem fk_of {x : Str} {st : Stmt} {N ps : List Str} {k : Nat} (d : Df K mg x st ps) (S : FnScope N ps (defScope st)) (pr : List Nat) {den : ENV → R Fl} (hlen : ps.length ≤ N.length)
    (hb : ∀ (f : Addr) (cdv : Value) (A : Around) (outer : List Env) (s : Shared) (H : Hp) (E : XK) (ad : Nat → Addr), Room k (A.deeper (PyProof.Rows.envOfC x (defScope st) s.heap.objs.size f cdv)) →
      DSs (cxOf (L2.CX P w) P w K mg base N x (defScope st) f cdv A outer s H E) ⟨C, fun cl d _ H => E cl d H, pr, ad⟩ (defBody st) den) : Fk P w K mg base C x ps.length (k + 1) (runF pr N.length den) := by
  obtain ⟨f, fd, F, hm, hbd⟩ := d.ex
  exact ⟨f, fd, ps, rfl, fn_ok F S pr hlen (hb f), hm, F.kp, .all hbd⟩
/-- the def's own object -/
noncomputable def Df.f {x : Str} {st : Stmt} {ps : List Str} (d : Df K mg x st ps) : Addr := d.ex.choose
noncomputable def Df.fd {x : Str} {st : Stmt} {ps : List Str} (d : Df K mg x st ps) : FuncData := d.ex.choose_spec.choose
theorem fnok_of {x : Str} {st : Stmt} {N ps : List Str} {k : Nat} (d : Df K mg x st ps) (S : FnScope N ps (defScope st)) (pr : List Nat) {den : ENV → R Fl} (hlen : ps.length ≤ N.length)
    (hb : ∀ (f : Addr) (cdv : Value) (A : Around) (outer : List Env) (s : Shared) (H : Hp) (E : XK) (ad : Nat → Addr), Room k (A.deeper (PyProof.Rows.envOfC x (defScope st) s.heap.objs.size f cdv)) →
      DSs (cxOf (L2.CX P w) P w K mg base N x (defScope st) f cdv A outer s H E) ⟨C, fun cl d _ H => E cl d H, pr, ad⟩ (defBody st) den) : FnOk P w K mg base (L2.CX P w) (k + 1) d.f d.fd ps (spF K C ps.length (runF pr N.length den)) :=
  fn_ok d.ex.choose_spec.choose_spec.1 S pr hlen (hb d.f)
theorem hu65 {k : Nat} {A : Around} (hr : Room k A) : A.units + 65 < cLine := by have := hr.un; omega
end
end Rf
set_option Elab.async false
set_option linter.all false
set_option maxRecDepth 100000
/-! Rf: exceptions of the text, the end of a law -/
namespace Rf
open PySem PySem.Spec L2
/-- an exception class of the text over ValueError, without __init__ -/
structure ExF (K : PySem.W.Frag) (mg : Str → Option Value) (c : Addr) (x : Str) : Prop where
  q : PySem.W.excIn K c PySem.HandSPX.veTail "ValueError.__new__" = true
  gC : mg x = some (.ref c)
  kC : PySem.W.keepIn K (.ref c) = true
  bP : PySem.W.subIn K (.ref c) (.type "BaseException") = some true
  tP : PySem.W.typeIn K (.ref c) = some (.type "type")
theorem ExF.pmk {X : Cx} {c : Addr} {x : Str} {p pos : Pos} (h : ExF X.K X.mg c x) (hg : Gl X x) (hd : (x == ("__debug__" : Str)) = false := by decide) : PMk X (.Call (.Name x p) [] [] pos) (fun _ H Q => Q (.ref c) none H) :=
  pmk_own0 PySem.F.excBase_ValueError h.q h.gC h.kC (raises_own h.bP h.tP) hg hd
theorem ExF.names {X : Cx} {c : Addr} {x : Str} (h : ExF X.K X.mg c x) (hg : Gl X x) (hd : (x == ("__debug__" : Str)) = false := by decide) : Names X x (.ref c) := ⟨hg, hd, .inl h.gC⟩
theorem exm_at {K : PySem.W.Frag} {S T : Addr} {b : Bool} (h1 : PySem.W.subIn K (.ref T) (.type "BaseException") = some true) (h2 : PySem.W.isClsIn K T = true) (h3 : PySem.W.typeIn K (.ref T) = some (.type "type")) (h4 : PySem.W.subIn K (.ref S) (.ref T) = some b) :
    PySem.W.exmOne K (.ref S) (.ref T) = some b := by
  have e1 : (PySem.W.subIn K (.ref T) (.type "BaseException") == some true) = true := by rw [h1] <;> rfl
  have e2 : ((PySem.W.clsIn K T).isSome && PySem.W.typeIn K (.ref T) == some (.type "type")) = true := by
    have h2' : (PySem.W.clsIn K T).isSome = true := h2
    rw [h2', h3] <;> rfl
  show (if (PySem.W.subIn K (.ref T) (.type "BaseException") == some true) = true then (if ((PySem.W.clsIn K T).isSome && PySem.W.typeIn K (.ref T) == some (.type "type")) = true then PySem.W.subIn K (.ref S) (.ref T) else none) else none) = some b
  rw [if_pos e1, if_pos e2]
  exact h4
/-- what the law is handed: the script -/
def spScript (K : PySem.W.Frag) : Sp := fun vs H Q _ => ∃ (a : Addr) (ns : List Int), vs = [.ref a] ∧ SqL K H a (ns.map V.int) ∧ ns.length ≤ 63 ∧ ∀ H', Q (.bl true) H'
theorem rpl_ints {K : PySem.W.Frag} {C : Nat → Addr} {G : Hp} : ∀ ns : List Int, RpL K C G (ns.map V.int) (ns.map D.int)
  | [] => .nil
  | n :: ns => .cons (.int n) (rpl_ints ns)
theorem script_imp {K : PySem.W.Frag} {C : Nat → Addr} {F : List DV → FO} (ht : ∀ ns : List Int, ns.length ≤ 63 → F [.sh (.scr (ns.map D.int))] = .ok (.sh (.bl true)) []) : ∀ vs H Q E, spScript K vs H Q E → spF K C 1 F vs H Q E := by
  rintro vs H Q E ⟨a, ns, rfl, hS, hl, k⟩
  refine ⟨[.sh (.scr (ns.map D.int))], H, H, rfl, Same.refl H, Same.refl H, .sh (.scr hS (rpl_ints ns)) .nil, fun i j m m' p e1 => ?_, ?_⟩
  · cases i with
    | zero => simp at e1
    | succ i => simp at e1
  · rw [ht ns hl]
    intro x G' H' ex sb sg os hv
    cases hv
    exact k H'
theorem walk_end {l : PySem.W.OpenLaw} {k : Nat} {q : Program} {loose : List Str} {XP : (Str → Option Value) → Heap → Prop} {YP : World → Heap → Prop} {d : DefRec} {K : Params → PySem.W.Frag} {F : List DV → FO} (hn : l.most = some 63) (hdf : d.params.defaults = [])
    (hd : d.name = "law") (hr : Room k callerA) (hY : ∀ (w : World) (h : Heap), YP w h → (K w.params).In h)
    (hF : ∀ (w : World) (mg : Str → Option Value) (h : Heap), (K w.params).In h → h.Ns mainGlobals mg → ∃ (C : Nat → Addr) (st : Stmt) (df : Df (K w.params) mg "law" st ["_law_script"]), ∀ base : Heap, FnOk l.prog w (K w.params) mg base (L2.CX l.prog w) k df.f df.fd ["_law_script"] (spF (K w.params) C 1 F))
    (ht : ∀ ns : List Int, ns.length ≤ 63 → F [.sh (.scr (ns.map D.int))] = .ok (.sh (.bl true)) []) : PySem.W.WalkO q loose XP YP l.row.toRowW d [] (fun f vs => PySem.call f vs) := by
  refine L2.walk_of (n := 63) (k := k) (x := "_law_script") (CX := fun w => L2.CX l.prog w) (sp := fun w => spScript (K w.params)) hn (by decide) hdf hr hY (fun w mg fa h KX G hm => ?_) (fun w H a ns hl _ hS => ⟨a, ns, rfl, hS, hl, fun _ => rfl⟩) fun w H s e s' h => ?_
  · obtain ⟨C, st, df, h⟩ := hF w mg h KX G
    obtain ⟨hf1, hf2, hf3⟩ := df.ex.choose_spec.choose_spec
    rw [hd] at hm
    have e : Value.ref fa = Value.ref df.f := Option.some.inj (hm.symm.trans hf2)
    injection e with e
    subst e
    exact ⟨df.fd, fun s u => .of_eq (hf3 [u] rfl), fun base _ _ => (h base).imp (script_imp ht)⟩
  · obtain ⟨_, _, _, _, _, _, _, _, _, _, _, _, z⟩ := h
    exact z.elim
end Rf
set_option Elab.async false
set_option linter.all false
set_option maxRecDepth 100000
/-! RfS: rewriting a denotation on given slots, as an interpreter does -/
namespace Rf
open PySem PySem.Spec L2
section
variable {α β : Type}
theorem e_bind (a : α) (ρ : ENV) (f : α → ENV → R β) : (R.ok a ρ).bind f = f a ρ := rfl
theorem e_bindX (e : EX) (ρ : ENV) (f : α → ENV → R β) : (R.exc e ρ).bind f = .exc e ρ := rfl
theorem e_bindB (f : α → ENV → R β) : (R.bot : R α).bind f = .bot := rfl
theorem e_of (a : α) (ρ : ENV) : R.of (some a) ρ = .ok a ρ := rfl
theorem c_bind {r r' : R α} {f : α → ENV → R β} (h : r = r') : r.bind f = r'.bind f := by rw [h]
/-! ### expressions -/
def look (o : Option (Option DV)) (i : Nat) (ρ : ENV) : R D := match o with
  | some (some (.sh d)) => .ok d ρ
  | some (some (.ow m)) => .ok m.toD (ρ.set i (some (.sh m.toD)))
  | _ => .bot
theorem e_var (i : Nat) (ρ : ENV) : dVar i ρ = look ρ[i]? i ρ := rfl
theorem e_lookS (d : D) (i : Nat) (ρ : ENV) : look (some (some (.sh d))) i ρ = .ok d ρ := rfl
theorem e_lookO (m : M) (i : Nat) (ρ : ENV) : look (some (some (.ow m))) i ρ = .ok m.toD (ρ.set i (some (.sh m.toD))) := rfl
theorem e_C (d : D) (ρ : ENV) : dC d ρ = .ok d ρ := rfl
def op2 (f : D → D → Option D) (db : ENV → R D) : D → ENV → R D := fun x ρ1 => (db ρ1).bind fun y ρ2 => R.of (f x y) ρ2
theorem e_op (f : D → D → Option D) (da db : ENV → R D) (ρ : ENV) : dOp f da db ρ = (da ρ).bind (op2 f db) := rfl
def op1 (f : D → Option D) : D → ENV → R D := fun y ρ2 => R.of (f y) ρ2
theorem e_op2 (f : D → D → Option D) (db : ENV → R D) (x : D) (ρ : ENV) : op2 f db x ρ = (db ρ).bind (op1 (f x)) := rfl
theorem e_op1 (f : D → Option D) (y : D) (ρ : ENV) : op1 f y ρ = R.of (f y) ρ := rfl
theorem e_un (f : D → Option D) (da : ENV → R D) (ρ : ENV) : dUn f da ρ = (da ρ).bind (op1 f) := rfl
theorem e_is (f : D → Option Bool) (da : ENV → R D) (ρ : ENV) : dIs f da ρ = (da ρ).bind (op1 fun d => (f d).map D.bl) := rfl
def toB : D → ENV → R Bool
  | .bl b, ρ => .ok b ρ
  | _, _ => .bot
theorem e_T (da : ENV → R D) (ρ : ENV) : dT da ρ = (da ρ).bind toB := by
  unfold dT asT
  cases da ρ with
  | ok d ρ => cases d <;> rfl
  | exc e ρ => rfl
  | bot => rfl
theorem e_toB (b : Bool) (ρ : ENV) : toB (.bl b) ρ = .ok b ρ := rfl
def truB : D → ENV → R Bool := fun d ρ => R.of (tru d) ρ
theorem e_Tru (da : ENV → R D) (ρ : ENV) : dTru da ρ = (da ρ).bind truB := rfl
theorem e_truB (d : D) (ρ : ENV) : truB d ρ = R.of (tru d) ρ := rfl
def andK (db : ENV → R Bool) : Bool → ENV → R Bool := fun x ρ1 => if x = true then db ρ1 else .ok false ρ1
def orK (db : ENV → R Bool) : Bool → ENV → R Bool := fun x ρ1 => if x = true then .ok true ρ1 else db ρ1
theorem e_And (da db : ENV → R Bool) (ρ : ENV) : dAnd da db ρ = (da ρ).bind (andK db) := rfl
theorem e_Or (da db : ENV → R Bool) (ρ : ENV) : dOr da db ρ = (da ρ).bind (orK db) := rfl
theorem e_andT (db : ENV → R Bool) (ρ : ENV) : andK db true ρ = db ρ := rfl
theorem e_andF (db : ENV → R Bool) (ρ : ENV) : andK db false ρ = .ok false ρ := rfl
theorem e_orT (db : ENV → R Bool) (ρ : ENV) : orK db true ρ = .ok true ρ := rfl
theorem e_orF (db : ENV → R Bool) (ρ : ENV) : orK db false ρ = db ρ := rfl
def notK : Bool → ENV → R Bool := fun x ρ1 => .ok (!x) ρ1
theorem e_Not (da : ENV → R Bool) (ρ : ENV) : dNot da ρ = (da ρ).bind notK := rfl
theorem e_notK (x : Bool) (ρ : ENV) : notK x ρ = .ok (!x) ρ := rfl
def andVK (db : ENV → R D) : D → ENV → R D := fun x ρ1 => match tru x with
  | some true => db ρ1
  | some false => .ok x ρ1
  | none => .bot
def orVK (db : ENV → R D) : D → ENV → R D := fun x ρ1 => match tru x with
  | some true => .ok x ρ1
  | some false => db ρ1
  | none => .bot
theorem e_AndV (da db : ENV → R D) (ρ : ENV) : dAndV da db ρ = (da ρ).bind (andVK db) := rfl
theorem e_OrV (da db : ENV → R D) (ρ : ENV) : dOrV da db ρ = (da ρ).bind (orVK db) := rfl
theorem e_andVT (db : ENV → R D) (ρ : ENV) : andVK db (.bl true) ρ = db ρ := rfl
theorem e_andVF (db : ENV → R D) (ρ : ENV) : andVK db (.bl false) ρ = .ok (.bl false) ρ := rfl
theorem e_orVT (db : ENV → R D) (ρ : ENV) : orVK db (.bl true) ρ = .ok (.bl true) ρ := rfl
theorem e_orVF (db : ENV → R D) (ρ : ENV) : orVK db (.bl false) ρ = db ρ := rfl
def notVK : D → ENV → R D := fun x ρ1 => R.of ((tru x).map fun k => .bl (!k)) ρ1
theorem e_NotV (da : ENV → R D) (ρ : ENV) : dNotV da ρ = (da ρ).bind notVK := rfl
theorem e_notVK (x : Bool) (ρ : ENV) : notVK (.bl x) ρ = .ok (.bl (!x)) ρ := rfl
def ifK (da db : ENV → R D) : Bool → ENV → R D := fun x ρ1 => if x = true then da ρ1 else db ρ1
theorem e_If (t : ENV → R Bool) (da db : ENV → R D) (ρ : ENV) : dIf t da db ρ = (t ρ).bind (ifK da db) := rfl
theorem e_ifT (da db : ENV → R D) (ρ : ENV) : ifK da db true ρ = da ρ := rfl
theorem e_ifF (da db : ENV → R D) (ρ : ENV) : ifK da db false ρ = db ρ := rfl
theorem e_Nil (ρ : ENV) : dNil ρ = .ok [] ρ := rfl
def consK (dr : ENV → R (List D)) : D → ENV → R (List D) := fun x ρ1 => (dr ρ1).bind fun xs ρ2 => .ok (x :: xs) ρ2
def consK2 (x : D) : List D → ENV → R (List D) := fun xs ρ2 => .ok (x :: xs) ρ2
theorem e_Cons (da : ENV → R D) (dr : ENV → R (List D)) (ρ : ENV) : dCons da dr ρ = (da ρ).bind (consK dr) := rfl
theorem e_consK (dr : ENV → R (List D)) (x : D) (ρ : ENV) : consK dr x ρ = (dr ρ).bind (consK2 x) := rfl
theorem e_consK2 (x : D) (xs : List D) (ρ : ENV) : consK2 x xs ρ = .ok (x :: xs) ρ := rfl
def tupK : List D → ENV → R D := fun xs ρ1 => if xs.length ≤ sizeLine then .ok (.tup xs) ρ1 else .bot
def lstK : List D → ENV → R D := fun xs ρ1 => if xs.length ≤ sizeLine then .ok (.lst xs) ρ1 else .bot
def lstF : List D → ENV → R M := fun xs ρ1 => if xs.length ≤ sizeLine then .ok (.lst xs) ρ1 else .bot
theorem e_Tup (dr : ENV → R (List D)) (ρ : ENV) : dTup dr ρ = (dr ρ).bind tupK := rfl
theorem e_Lst (dr : ENV → R (List D)) (ρ : ENV) : dLst dr ρ = (dr ρ).bind lstK := rfl
theorem e_LstF (dr : ENV → R (List D)) (ρ : ENV) : fLst dr ρ = (dr ρ).bind lstF := rfl
theorem e_tupK (xs : List D) (ρ : ENV) (h : xs.length ≤ sizeLine) : tupK xs ρ = .ok (.tup xs) ρ := by unfold tupK; rw [if_pos h]
theorem e_lstK (xs : List D) (ρ : ENV) (h : xs.length ≤ sizeLine) : lstK xs ρ = .ok (.lst xs) ρ := by unfold lstK; rw [if_pos h]
theorem e_lstF (xs : List D) (ρ : ENV) (h : xs.length ≤ sizeLine) : lstF xs ρ = .ok (.lst xs) ρ := by unfold lstF; rw [if_pos h]
/-- short written displays -/
theorem e_tup0 (ρ : ENV) : tupK [] ρ = .ok (.tup []) ρ := rfl
theorem e_lst0 (ρ : ENV) : lstK [] ρ = .ok (.lst []) ρ := rfl
theorem e_lstF0 (ρ : ENV) : lstF [] ρ = .ok (.lst []) ρ := rfl
def bK (f : List D → Option D) : List D → ENV → R D := fun xs ρ1 => R.of (f xs) ρ1
theorem e_B (f : List D → Option D) (dr : ENV → R (List D)) (ρ : ENV) : dB f dr ρ = (dr ρ).bind (bK f) := rfl
theorem e_bK (f : List D → Option D) (xs : List D) (ρ : ENV) : bK f xs ρ = R.of (f xs) ρ := rfl
/-- owned lists -/
def ixO (i : Nat) : D → ENV → R D := fun k ρ1 => match k, ρ1[i]? with
  | .int k, some (some (.ow (.lst ds))) => R.of (atI ds k) ρ1
  | _, _ => .bot
theorem e_ixO (i : Nat) (dk : ENV → R D) (ρ : ENV) (ds : List D) (h : ρ[i]? = some (some (.ow (.lst ds)))) : dIxO i dk ρ = (dk ρ).bind (ixO i) := by
  unfold dIxO; rw [h]; rfl
theorem e_ixO2 (i : Nat) (k : Int) (ρ : ENV) (ds : List D) (h : ρ[i]? = some (some (.ow (.lst ds)))) : ixO i (.int k) ρ = R.of (atI ds k) ρ := by
  unfold ixO; rw [h]
theorem e_lenO (i : Nat) (ρ : ENV) (ds : List D) (h : ρ[i]? = some (some (.ow (.lst ds)))) : dLenO i ρ = .ok (.int ds.length) ρ := by unfold dLenO; rw [h]
theorem at0 {α : Type} (x : α) (xs : List α) : L2.atI (x :: xs) 0 = some x := by
  unfold L2.atI ixN
  rw [if_pos (Int.le_refl 0), if_pos (by simp only [List.length_cons]; omega)]; rfl
theorem at1 {α : Type} (x y : α) (xs : List α) : L2.atI (x :: y :: xs) 1 = some y := by
  unfold L2.atI ixN
  rw [if_pos (by decide), if_pos (by simp only [List.length_cons]; omega)]; rfl
theorem at2 {α : Type} (x y z : α) (xs : List α) : L2.atI (x :: y :: z :: xs) 2 = some z := by
  unfold L2.atI ixN
  rw [if_pos (by decide), if_pos (by simp only [List.length_cons]; omega)]; rfl
theorem at3 {α : Type} (x y z u : α) (xs : List α) : L2.atI (x :: y :: z :: u :: xs) 3 = some u := by
  unfold L2.atI ixN
  rw [if_pos (by decide), if_pos (by simp only [List.length_cons]; omega)]; rfl
theorem atN {α : Type} {xs : List α} {i : Int} {x : α} (h0 : 0 ≤ i) (h : xs[i.toNat]? = some x) : L2.atI xs i = some x := by
  obtain ⟨hl, _⟩ := List.getElem?_eq_some_iff.mp h
  unfold L2.atI ixN
  rw [if_pos h0, if_pos (by omega)]
  exact h
theorem e_vEq (neg : Bool) (i j : Int) : vEq neg (.int i) (.int j) = some (.bl (if neg then !(i == j) else (i == j))) := by cases neg <;> rfl
theorem e_eqI (i j : Int) : CK.f .eq (.int i) (.int j) = some (.bl (i == j)) := rfl
theorem e_neI (i j : Int) : CK.f .ne (.int i) (.int j) = some (.bl (!(i == j))) := rfl
theorem e_ltI (i j : Int) : CK.f .lt (.int i) (.int j) = some (.bl (decide (i < j))) := rfl
theorem e_leI (i j : Int) : CK.f .le (.int i) (.int j) = some (.bl (decide (i ≤ j))) := rfl
theorem e_gtI (i j : Int) : CK.f .gt (.int i) (.int j) = some (.bl (decide (j < i))) := rfl
theorem e_geI (i j : Int) : CK.f .ge (.int i) (.int j) = some (.bl (decide (j ≤ i))) := rfl
theorem e_add (i j : Int) : vAdd (.int i) (.int j) = some (.int (i + j)) := rfl
theorem e_vI (f : Int → Int → Int) (i j : Int) : vI f (.int i) (.int j) = some (.int (f i j)) := rfl
theorem e_vIc (c : Int → Int → Bool) (f : Int → Int → Int) (i j : Int) (h : c i j = true) : vIc c f (.int i) (.int j) = some (.int (f i j)) := by
  show (if c i j = true then some (D.int (f i j)) else none) = _
  rw [if_pos h]
theorem e_neg (i : Int) : vNeg (.int i) = some (.int (-i)) := rfl
theorem e_fInt (i : Int) : fInt [.int i] = some (.int i) := rfl
theorem e_fIntB (b : Bool) : fInt [.bl b] = some (.int (if b then 1 else 0)) := rfl
theorem e_lenL (ds : List D) : fLen [.lst ds] = some (.int ds.length) := rfl
theorem e_lenT (ds : List D) : fLen [.tup ds] = some (.int ds.length) := rfl
theorem e_lenR (ds : List D) : fLen [.scr ds] = some (.int ds.length) := rfl
theorem e_lenS (z : Str) : fLen [.str z] = some (.int z.length) := rfl
theorem e_ixL (ds : List D) (i : Int) : vIxI (.lst ds) (.int i) = atI ds i := rfl
theorem e_ixT (ds : List D) (i : Int) : vIxI (.tup ds) (.int i) = atI ds i := rfl
theorem e_tupL (ds : List D) : fTuple [.lst ds] = some (.tup ds) := rfl
theorem e_tupT (ds : List D) : fTuple [.tup ds] = some (.tup ds) := rfl
theorem e_lstT (ds : List D) : fList [.tup ds] = some (.lst ds) := rfl
/-! ### statements -/
def sqK (b : ENV → R Fl) : Fl → ENV → R Fl
  | .nx, ρ => b ρ
  | f, ρ => .ok f ρ
theorem e_Seq (a b : ENV → R Fl) (ρ : ENV) : sSeq a b ρ = (a ρ).bind (sqK b) := by
  unfold sSeq
  cases a ρ with
  | ok f ρ => cases f <;> rfl
  | exc e ρ => rfl
  | bot => rfl
theorem e_sqN (b : ENV → R Fl) (ρ : ENV) : sqK b .nx ρ = b ρ := rfl
theorem e_sqR (b : ENV → R Fl) (v : DV) (ρ : ENV) : sqK b (.ret v) ρ = .ok (.ret v) ρ := rfl
theorem e_sqB (b : ENV → R Fl) (ρ : ENV) : sqK b .bk ρ = .ok .bk ρ := rfl
theorem e_sqC (b : ENV → R Fl) (ρ : ENV) : sqK b .ct ρ = .ok .ct ρ := rfl
theorem e_sNil (ρ : ENV) : sNil ρ = .ok .nx ρ := rfl
def sifK (a b : ENV → R Fl) : Bool → ENV → R Fl := fun x ρ1 => if x = true then a ρ1 else b ρ1
theorem e_sIf (c : ENV → R Bool) (a b : ENV → R Fl) (ρ : ENV) : sIf c a b ρ = (c ρ).bind (sifK a b) := rfl
theorem e_sifT (a b : ENV → R Fl) (ρ : ENV) : sifK a b true ρ = a ρ := rfl
theorem e_sifF (a b : ENV → R Fl) (ρ : ENV) : sifK a b false ρ = b ρ := rfl
def retK : D → ENV → R Fl := fun d ρ1 => .ok (.ret (.sh d)) ρ1
def retFK : M → ENV → R Fl := fun d ρ1 => .ok (.ret (.ow d)) ρ1
theorem e_Ret (da : ENV → R D) (ρ : ENV) : sRet da ρ = (da ρ).bind retK := rfl
theorem e_retK (d : D) (ρ : ENV) : retK d ρ = .ok (.ret (.sh d)) ρ := rfl
theorem e_RetF (da : ENV → R M) (ρ : ENV) : sRetF da ρ = (da ρ).bind retFK := rfl
theorem e_retFK (d : M) (ρ : ENV) : retFK d ρ = .ok (.ret (.ow d)) ρ := rfl
def exprK : D → ENV → R Fl := fun _ ρ1 => .ok .nx ρ1
theorem e_Expr (da : ENV → R D) (ρ : ENV) : sExpr da ρ = (da ρ).bind exprK := rfl
theorem e_exprK (d : D) (ρ : ENV) : exprK d ρ = .ok .nx ρ := rfl
def stK (o : Option ENV) : R Fl := match o with
  | some ρ => .ok .nx ρ
  | none => .bot
def asgK (g : D → ENV → Option ENV) : D → ENV → R Fl := fun d ρ1 => stK (g d ρ1)
theorem e_Asg (da : ENV → R D) (g : D → ENV → Option ENV) (ρ : ENV) : sAsg da g ρ = (da ρ).bind (asgK g) := by
  unfold sAsg
  cases da ρ with
  | ok d ρ => show (match g d ρ with | some ρ2 => R.ok Fl.nx ρ2 | none => .bot) = stK (g d ρ); unfold stK; cases g d ρ <;> rfl
  | exc e ρ => rfl
  | bot => rfl
theorem e_asgK (g : D → ENV → Option ENV) (d : D) (ρ : ENV) : asgK g d ρ = stK (g d ρ) := rfl
theorem e_stK (ρ : ENV) : stK (some ρ) = .ok .nx ρ := rfl
theorem e_gSet (i : Nat) (d : D) (ρ : ENV) (h : i < ρ.length) : gSet i d ρ = some (ρ.set i (some (.sh d))) := by unfold gSet; rw [if_pos h]
def ownK (i : Nat) : M → ENV → R Fl := fun m ρ1 => if i < ρ1.length then .ok .nx (ρ1.set i (some (.ow m))) else .bot
theorem e_Own (fa : ENV → R M) (i : Nat) (ρ : ENV) : sOwn fa i ρ = (fa ρ).bind (ownK i) := rfl
theorem e_ownK (i : Nat) (m : M) (ρ : ENV) (h : i < ρ.length) : ownK i m ρ = .ok .nx (ρ.set i (some (.ow m))) := by unfold ownK; rw [if_pos h]
/-- xs[k] = e -/
def subK (i : Nat) (di : ENV → R D) : D → ENV → R Fl := fun d ρ1 => match ρ1[i]? with
  | some (some (.ow (.lst _))) => (di ρ1).bind fun k ρ2 => match k, ρ2[i]? with
    | .int k, some (some (.ow (.lst ds))) => match ixN ds.length k with
      | some j => .ok .nx (ρ2.set i (some (.ow (.lst (ds.set j d)))))
      | none => .bot
    | _, _ => .bot
  | _ => .bot
theorem e_Sub (i : Nat) (da di : ENV → R D) (ρ : ENV) : sSub i da di ρ = (da ρ).bind (subK i di) := rfl
/-- .. at a written place -/
theorem e_subK (i : Nat) (k : Int) (d : D) (ρ : ENV) (ds : List D) (h : ρ[i]? = some (some (.ow (.lst ds)))) (hk : 0 ≤ k) (hl : k < ds.length) : subK i (dC (.int k)) d ρ = .ok .nx (ρ.set i (some (.ow (.lst (ds.set k.toNat d))))) := by
  unfold subK
  rw [h]
  dsimp only [dC, R.bind]
  rw [h]
  dsimp only [ixN]
  rw [if_pos hk, if_pos hl]
def appK (i : Nat) : D → ENV → R Fl := fun d ρ1 => match ρ1[i]? with
  | some (some (.ow (.lst ds))) => if ds.length < sizeLine then .ok .nx (ρ1.set i (some (.ow (.lst (ds ++ [d]))))) else .bot
  | _ => .bot
theorem e_App (i : Nat) (da : ENV → R D) (ρ : ENV) (ds : List D) (h : ρ[i]? = some (some (.ow (.lst ds)))) : sApp i da ρ = (da ρ).bind (appK i) := by
  unfold sApp; rw [h]; rfl
theorem e_appK (i : Nat) (d : D) (ρ : ENV) (ds : List D) (h : ρ[i]? = some (some (.ow (.lst ds)))) (hl : ds.length < sizeLine) : appK i d ρ = .ok .nx (ρ.set i (some (.ow (.lst (ds ++ [d]))))) := by
  unfold appK; rw [h]; dsimp only; rw [if_pos hl]
def forK (g : D → ENV → Option ENV) (body : ENV → R Fl) : List D → ENV → R Fl := fun ds ρ1 => forL g body ds ρ1
theorem e_For (di : ENV → R (List D)) (g : D → ENV → Option ENV) (body : ENV → R Fl) (ρ : ENV) : sFor di g body ρ = (di ρ).bind (forK g body) := rfl
def itK : D → ENV → R (List D) := fun x ρ1 => R.of (items x) ρ1
theorem e_Items (da : ENV → R D) (ρ : ENV) : dItems da ρ = (da ρ).bind itK := rfl
theorem e_itL (ds : List D) (ρ : ENV) : itK (.lst ds) ρ = .ok ds ρ := rfl
theorem e_itT (ds : List D) (ρ : ENV) : itK (.tup ds) ρ = .ok ds ρ := rfl
theorem e_itR (ds : List D) (ρ : ENV) : itK (.scr ds) ρ = .ok ds ρ := rfl
/-! ### calls -/
theorem e_Call (F : List DV → FO) (dr : ENV → R (List Ag)) (ρ : ENV) : dCall F dr ρ = ((dr ρ).bind (stepR F)).bind onSh := rfl
theorem e_CallF (F : List DV → FO) (dr : ENV → R (List Ag)) (ρ : ENV) : fCall F dr ρ = ((dr ρ).bind (stepR F)).bind onOw := rfl
theorem e_aNil (ρ : ENV) : aNil ρ = .ok [] ρ := rfl
def aVK (dr : ENV → R (List Ag)) : D → ENV → R (List Ag) := fun x ρ1 => (dr ρ1).bind fun xs ρ2 => .ok (.inl x :: xs) ρ2
def aVK2 (x : Ag) : List Ag → ENV → R (List Ag) := fun xs ρ2 => .ok (x :: xs) ρ2
theorem e_aVal (da : ENV → R D) (dr : ENV → R (List Ag)) (ρ : ENV) : aVal da dr ρ = (da ρ).bind (aVK dr) := rfl
theorem e_aVK (dr : ENV → R (List Ag)) (x : D) (ρ : ENV) : aVK dr x ρ = (dr ρ).bind (aVK2 (.inl x)) := rfl
theorem e_aVK2 (x : Ag) (xs : List Ag) (ρ : ENV) : aVK2 x xs ρ = .ok (x :: xs) ρ := rfl
theorem e_aIo (i : Nat) (dr : ENV → R (List Ag)) (ρ : ENV) (m : M) (h : ρ[i]? = some (some (.ow m))) : aIo i dr ρ = (dr ρ).bind (aVK2 (.inr i)) := by unfold aIo; rw [h]; rfl
def outK (as : List Ag) (ρ : ENV) : FO → R DV
  | .ok v ms => match putB as ms ρ with | some ρ2 => .ok v ρ2 | none => .bot
  | .exc e ms => match putB as ms ρ with | some ρ2 => .exc e ρ2 | none => .bot
  | .bot => .bot
/-- values alone -/
def vals : List Ag → Option (List DV)
  | [] => some []
  | .inl d :: r => (vals r).map (.sh d :: ·)
  | .inr _ :: _ => none
theorem step0 (F : List DV → FO) (ρ : ENV) : stepR F [] ρ = outK [] ρ (F []) := by show (match F [] with | .ok v ms => _ | .exc e ms => _ | .bot => _) = _; cases F [] <;> rfl
theorem step1 (F : List DV → FO) (a : D) (ρ : ENV) : stepR F [.inl a] ρ = outK [.inl a] ρ (F [.sh a]) := by show (match F [.sh a] with | .ok v ms => _ | .exc e ms => _ | .bot => _) = _; cases F [.sh a] <;> rfl
theorem step2 (F : List DV → FO) (a b : D) (ρ : ENV) : stepR F [.inl a, .inl b] ρ = outK [.inl a, .inl b] ρ (F [.sh a, .sh b]) := by show (match F [.sh a, .sh b] with | .ok v ms => _ | .exc e ms => _ | .bot => _) = _; cases F [.sh a, .sh b] <;> rfl
theorem step3 (F : List DV → FO) (a b c : D) (ρ : ENV) : stepR F [.inl a, .inl b, .inl c] ρ = outK [.inl a, .inl b, .inl c] ρ (F [.sh a, .sh b, .sh c]) := by show (match F [.sh a, .sh b, .sh c] with | .ok v ms => _ | .exc e ms => _ | .bot => _) = _; cases F [.sh a, .sh b, .sh c] <;> rfl
theorem stepO1 (F : List DV → FO) (i : Nat) (ρ : ENV) (m : M) (h : ρ[i]? = some (some (.ow m))) : stepR F [.inr i] ρ = outK [.inr i] ρ (F [.ow m]) := by
  unfold stepR
  have e : (if nodupB (slots [Sum.inr i]) = true then reso ρ [Sum.inr i] else none) = some [.ow m] := by
    have : nodupB (slots [(Sum.inr i : Ag)]) = true := by simp [slots, nodupB]
    rw [if_pos this]; unfold reso; rw [h]; rfl
  rw [e]
  show (match F [.ow m] with | .ok v ms => (match putB [.inr i] ms ρ with | some ρ2 => R.ok v ρ2 | none => .bot) | .exc e ms => (match putB [.inr i] ms ρ with | some ρ2 => .exc e ρ2 | none => .bot) | .bot => .bot) = outK [.inr i] ρ (F [.ow m])
  cases F [.ow m] <;> rfl
theorem stepO2 (F : List DV → FO) (i : Nat) (a : D) (ρ : ENV) (m : M) (h : ρ[i]? = some (some (.ow m))) : stepR F [.inr i, .inl a] ρ = outK [.inr i, .inl a] ρ (F [.ow m, .sh a]) := by
  unfold stepR
  have e : (if nodupB (slots [Sum.inr i, Sum.inl a]) = true then reso ρ [Sum.inr i, Sum.inl a] else none) = some [.ow m, .sh a] := by
    have : nodupB (slots [(Sum.inr i : Ag), Sum.inl a]) = true := by simp [slots, nodupB]
    rw [if_pos this]; unfold reso; rw [h]; rfl
  rw [e]
  show (match F [.ow m, .sh a] with | .ok v ms => (match putB [.inr i, .inl a] ms ρ with | some ρ2 => R.ok v ρ2 | none => .bot) | .exc e ms => (match putB [.inr i, .inl a] ms ρ with | some ρ2 => .exc e ρ2 | none => .bot) | .bot => .bot) = outK [.inr i, .inl a] ρ (F [.ow m, .sh a])
  cases F [.ow m, .sh a] <;> rfl
theorem stepO3 (F : List DV → FO) (i : Nat) (a b : D) (ρ : ENV) (m : M) (h : ρ[i]? = some (some (.ow m))) : stepR F [.inr i, .inl a, .inl b] ρ = outK [.inr i, .inl a, .inl b] ρ (F [.ow m, .sh a, .sh b]) := by
  unfold stepR
  have e : (if nodupB (slots [Sum.inr i, Sum.inl a, Sum.inl b]) = true then reso ρ [Sum.inr i, Sum.inl a, Sum.inl b] else none) = some [.ow m, .sh a, .sh b] := by
    have : nodupB (slots [(Sum.inr i : Ag), Sum.inl a, Sum.inl b]) = true := by simp [slots, nodupB]
    rw [if_pos this]; unfold reso; rw [h]; rfl
  rw [e]
  show (match F [.ow m, .sh a, .sh b] with | .ok v ms => (match putB [.inr i, .inl a, .inl b] ms ρ with | some ρ2 => R.ok v ρ2 | none => .bot) | .exc e ms => (match putB [.inr i, .inl a, .inl b] ms ρ with | some ρ2 => .exc e ρ2 | none => .bot) | .bot => .bot) = outK [.inr i, .inl a, .inl b] ρ (F [.ow m, .sh a, .sh b])
  cases F [.ow m, .sh a, .sh b] <;> rfl
/-- out of a call without owned arguments -/
theorem out1 (a : D) (ρ : ENV) (v : DV) : outK [.inl a] ρ (.ok v []) = .ok v ρ := rfl
theorem out0 (ρ : ENV) (v : DV) : outK [] ρ (.ok v []) = .ok v ρ := rfl
theorem out2 (a b : D) (ρ : ENV) (v : DV) : outK [.inl a, .inl b] ρ (.ok v []) = .ok v ρ := rfl
theorem out3 (a b c : D) (ρ : ENV) (v : DV) : outK [.inl a, .inl b, .inl c] ρ (.ok v []) = .ok v ρ := rfl
theorem outX1 (a : D) (ρ : ENV) (v : EX) : outK [.inl a] ρ (.exc v []) = .exc v ρ := rfl
theorem outX2 (a b : D) (ρ : ENV) (v : EX) : outK [.inl a, .inl b] ρ (.exc v []) = .exc v ρ := rfl
theorem outO1 (i : Nat) (ρ : ENV) (v : DV) (m : M) : outK [.inr i] ρ (.ok v [m]) = .ok v (ρ.set i (some (.ow m))) := rfl
theorem outO2 (i : Nat) (a : D) (ρ : ENV) (v : DV) (m : M) : outK [.inr i, .inl a] ρ (.ok v [m]) = .ok v (ρ.set i (some (.ow m))) := rfl
theorem outO3 (i : Nat) (a b : D) (ρ : ENV) (v : DV) (m : M) : outK [.inr i, .inl a, .inl b] ρ (.ok v [m]) = .ok v (ρ.set i (some (.ow m))) := rfl
theorem e_onSh (d : D) (ρ : ENV) : onSh (.sh d) ρ = .ok d ρ := rfl
theorem e_onOw (d : M) (ρ : ENV) : onOw (.ow d) ρ = .ok d ρ := rfl
/-! ### defs -/
def finF (ds : List DV) : R Fl → FO
  | .ok (.ret v) ρ => match outsE 0 ds ρ with | some ms => .ok v ms | none => .bot
  | .ok .nx ρ => match outsE 0 ds ρ with | some ms => .ok (.sh .non) ms | none => .bot
  | .exc e ρ => match outsE 0 ds ρ with | some ms => .exc e ms | none => .bot
  | _ => .bot
theorem e_run (pr : List Nat) (n : Nat) (den : ENV → R Fl) (ds : List DV) (h : owPos 0 ds = pr) : runF pr n den ds = finF ds (den (startE n ds)) := by
  unfold runF
  rw [if_pos h]
  cases den (startE n ds) with
  | ok f ρ => cases f <;> rfl
  | exc e ρ => rfl
  | bot => rfl
end
end Rf
set_option Elab.async false
set_option linter.all false
set_option maxRecDepth 100000
/-! RfT: more rules: comprehensions, data compared, loops -/
namespace Rf
open PySem PySem.Spec L2
/-! ### comprehensions whose parts leave the slots alone -/
theorem e_frzL (di : ENV → R (List D)) (g : D → ENV → Option ENV) (tt : ENV → R Bool) (te : ENV → R D) (vs : List Nat) (ρ : ENV) (ds : List D) (ρ' : ENV) (h : fLc di g tt te vs ρ = .ok (.lst ds) ρ') : frz (fLc di g tt te vs ρ) = .ok (.lst ds) ρ' := by
  rw [h]; rfl
theorem set2 (ρ : ENV) (i : Nat) (x y : Option DV) : (ρ.set i x).set i y = ρ.set i y := List.set_set ..
theorem set_back (ρ : ENV) (i : Nat) (x : Option DV) (h : ρ[i]? = some none) : back ρ [i] (ρ.set i x) = ρ := by
  unfold back
  rw [h]
  dsimp only [back]
  rw [set2]
  refine List.ext_getElem? fun j => ?_
  by_cases e : i = j
  · subst e
    rw [List.getElem?_set_self (List.getElem?_eq_some_iff.mp h).1, h]
  · rw [List.getElem?_set_ne e]
theorem noOwn1 (ρ : ENV) (i : Nat) (h : ρ[i]? = some none) : noOwn ρ [i] = true := by
  unfold noOwn
  simp only [List.all_cons, List.all_nil, h, Bool.and_true]
theorem comp_map {ρ : ENV} {i : Nat} {te : ENV → R D} {f : D → D} (hi : i < ρ.length) : ∀ (ds acc : List D) (x : Option DV), (∀ d ∈ ds, te (ρ.set i (some (.sh d))) = .ok (f d) (ρ.set i (some (.sh d)))) → acc.length + ds.length ≤ sizeLine →
    ∃ y, compL (gSet i) dYes te [i] ds acc (ρ.set i x) = .ok (acc ++ ds.map f) (ρ.set i y)
  | [], acc, x, _, _ => ⟨x, by unfold compL; simp⟩
  | d :: ds, acc, x, h, hz => by
    obtain ⟨y, hy⟩ := comp_map hi ds (acc ++ [f d]) (some (.sh d)) (fun e he => h e (List.mem_cons_of_mem _ he)) (by simp only [List.length_append, List.length_cons, List.length_nil] at hz ⊢; omega)
    refine ⟨y, ?_⟩
    unfold compL
    have e1 : wipeE (ρ.set i x) [i] = ρ.set i none := by unfold wipeE; exact set2 ..
    have e2 : gSet i d (ρ.set i none) = some (ρ.set i (some (.sh d))) := by unfold gSet; rw [if_pos (by rw [List.length_set]; exact hi), set2]
    have e3 : acc.length < sizeLine := by simp only [List.length_cons] at hz; omega
    rw [e1, e2]
    simp only [dYes, h d List.mem_cons_self, if_pos e3, hy]
    simp
/-- [te for x in ds] -/
theorem lc_map {ρ : ENV} {i : Nat} {te : ENV → R D} {di : ENV → R (List D)} {ds : List D} (f : D → D) (hd : di ρ = .ok ds ρ) (hi : ρ[i]? = some none) (h : ∀ d ∈ ds, te (ρ.set i (some (.sh d))) = .ok (f d) (ρ.set i (some (.sh d)))) (hz : ds.length ≤ sizeLine) :
    fLc di (gSet i) dYes te [i] ρ = .ok (.lst (ds.map f)) ρ := by
  have e0 : ρ = ρ.set i none := by
    refine List.ext_getElem? fun j => ?_
    by_cases e : i = j
    · subst e; rw [List.getElem?_set_self (List.getElem?_eq_some_iff.mp hi).1, hi]
    · rw [List.getElem?_set_ne e]
  obtain ⟨y, hy⟩ := comp_map (List.getElem?_eq_some_iff.mp hi).1 ds [] none h (by simpa using hz)
  unfold fLc
  rw [hd]
  dsimp only [R.bind]
  rw [noOwn1 ρ i hi]
  rw [← e0] at hy
  rw [hy]
  dsimp only
  rw [set_back ρ i y hi]
  simp
theorem comp_filt {ρ : ENV} {i : Nat} {tt : ENV → R Bool} {te : ENV → R D} {p : D → Bool} {f : D → D} (hi : i < ρ.length) : ∀ (ds acc : List D) (x : Option DV), (∀ d ∈ ds, tt (ρ.set i (some (.sh d))) = .ok (p d) (ρ.set i (some (.sh d)))) → (∀ d ∈ ds, p d = true → te (ρ.set i (some (.sh d))) = .ok (f d) (ρ.set i (some (.sh d)))) → acc.length + ds.length ≤ sizeLine →
    ∃ y, compL (gSet i) tt te [i] ds acc (ρ.set i x) = .ok (acc ++ (ds.filter p).map f) (ρ.set i y)
  | [], acc, x, _, _, _ => ⟨x, by unfold compL; simp⟩
  | d :: ds, acc, x, h, h2, hz => by
    have e1 : wipeE (ρ.set i x) [i] = ρ.set i none := by unfold wipeE; exact set2 ..
    have e2 : gSet i d (ρ.set i none) = some (ρ.set i (some (.sh d))) := by unfold gSet; rw [if_pos (by rw [List.length_set]; exact hi), set2]
    have e3 : acc.length < sizeLine := by simp only [List.length_cons] at hz; omega
    cases hp : p d with
    | true =>
      obtain ⟨y, hy⟩ := comp_filt hi ds (acc ++ [f d]) (some (.sh d)) (fun e he => h e (List.mem_cons_of_mem _ he)) (fun e he => h2 e (List.mem_cons_of_mem _ he)) (by simp only [List.length_append, List.length_cons, List.length_nil] at hz ⊢; omega)
      refine ⟨y, ?_⟩
      unfold compL
      rw [e1, e2]
      simp only [h d List.mem_cons_self, hp, h2 d List.mem_cons_self hp, if_pos e3, hy]
      simp [hp]
    | false =>
      obtain ⟨y, hy⟩ := comp_filt hi ds acc (some (.sh d)) (fun e he => h e (List.mem_cons_of_mem _ he)) (fun e he => h2 e (List.mem_cons_of_mem _ he)) (by simp only [List.length_cons] at hz ⊢; omega)
      refine ⟨y, ?_⟩
      unfold compL
      rw [e1, e2]
      simp only [h d List.mem_cons_self, hp, hy]
      simp [hp]
/-- [te for x in ds if tt] -/
theorem lc_filt {ρ : ENV} {i : Nat} {tt : ENV → R Bool} {te : ENV → R D} {di : ENV → R (List D)} {ds : List D} (p : D → Bool) (f : D → D) (hd : di ρ = .ok ds ρ) (hi : ρ[i]? = some none) (h : ∀ d ∈ ds, tt (ρ.set i (some (.sh d))) = .ok (p d) (ρ.set i (some (.sh d))))
    (h2 : ∀ d ∈ ds, p d = true → te (ρ.set i (some (.sh d))) = .ok (f d) (ρ.set i (some (.sh d)))) (hz : ds.length ≤ sizeLine) :
    fLc di (gSet i) tt te [i] ρ = .ok (.lst ((ds.filter p).map f)) ρ := by
  have e0 : ρ = ρ.set i none := by
    refine List.ext_getElem? fun j => ?_
    by_cases e : i = j
    · subst e; rw [List.getElem?_set_self (List.getElem?_eq_some_iff.mp hi).1, hi]
    · rw [List.getElem?_set_ne e]
  obtain ⟨y, hy⟩ := comp_filt (List.getElem?_eq_some_iff.mp hi).1 ds [] none h h2 (by simpa using hz)
  unfold fLc
  rw [hd]
  dsimp only [R.bind]
  rw [noOwn1 ρ i hi]
  rw [← e0] at hy
  rw [hy]
  dsimp only
  rw [set_back ρ i y hi]
  simp
/-- .. over ints -/
theorem lc_mapI {ρ : ENV} {i : Nat} {te : ENV → R D} {di : ENV → R (List D)} {ns : List Int} (f : Int → Int) (hd : di ρ = .ok (ns.map D.int) ρ) (hi : ρ[i]? = some none) (h : ∀ n ∈ ns, te (ρ.set i (some (.sh (.int n)))) = .ok (.int (f n)) (ρ.set i (some (.sh (.int n))))) (hz : ns.length ≤ sizeLine) :
    fLc di (gSet i) dYes te [i] ρ = .ok (.lst ((ns.map f).map D.int)) ρ := by
  have := lc_map (te := te) (fun d => match d with | .int n => .int (f n) | d => d) hd hi (fun d hd => by
    obtain ⟨n, hn, rfl⟩ := List.mem_map.mp hd
    exact h n hn) (by rw [List.length_map]; exact hz)
  rw [this, List.map_map, List.map_map]
  rfl
theorem filt_ints (p : D → Bool) : ∀ ns : List Int, (ns.map D.int).filter p = (ns.filter fun n => p (.int n)).map D.int
  | [] => rfl
  | n :: ns => by
    rw [List.map_cons, List.filter_cons, List.filter_cons, filt_ints p ns]
    cases p (.int n) <;> rfl
theorem lc_filtI {ρ : ENV} {i : Nat} {tt : ENV → R Bool} {te : ENV → R D} {di : ENV → R (List D)} {ns : List Int} (p : Int → Bool) (f : Int → Int) (hd : di ρ = .ok (ns.map D.int) ρ) (hi : ρ[i]? = some none) (h : ∀ n ∈ ns, tt (ρ.set i (some (.sh (.int n)))) = .ok (p n) (ρ.set i (some (.sh (.int n)))))
    (h2 : ∀ n ∈ ns, p n = true → te (ρ.set i (some (.sh (.int n)))) = .ok (.int (f n)) (ρ.set i (some (.sh (.int n))))) (hz : ns.length ≤ sizeLine) :
    fLc di (gSet i) tt te [i] ρ = .ok (.lst (((ns.filter p).map f).map D.int)) ρ := by
  have := lc_filt (tt := tt) (te := te) (fun d => match d with | .int n => p n | _ => false) (fun d => match d with | .int n => .int (f n) | d => d) hd hi (fun d hd => by
    obtain ⟨n, hn, rfl⟩ := List.mem_map.mp hd
    exact h n hn) (fun d hd hp => by
    obtain ⟨n, hn, rfl⟩ := List.mem_map.mp hd
    exact h2 n hn hp) (by rw [List.length_map]; exact hz)
  rw [this, filt_ints, List.map_map, List.map_map]
  rfl
/-! ### ints compared -/
theorem toPyL_map (f : Int → D) (g : Int → PyData) (h : ∀ i, (f i).toPy = g i) : ∀ l : List Int, toPyL (l.map f) = l.map g
  | [] => rfl
  | a :: l => by show (f a).toPy :: toPyL (l.map f) = _; rw [h, toPyL_map f g h l]; rfl
theorem lay_ints : ∀ l : List Int, PyData.canLayAll0 (l.map PyData.int) = true
  | [] => by simp [PyData.canLayAll0]
  | a :: l => by simp [PyData.canLayAll0, PyData.canLay0, lay_ints l]
theorem depth_ints : ∀ l : List Int, PyData.depthAll (l.map PyData.int) ≤ 1
  | [] => by simp [PyData.depthAll]
  | a :: l => by
    have := depth_ints l
    simp only [List.map_cons, PyData.depthAll, PyData.depth]
    omega
theorem eqv_ints : ∀ a b : List Int, PyData.eqvAll (a.map PyData.int) (b.map PyData.int) = decide (a = b)
  | [], [] => by simp [PyData.eqvAll]
  | [], b :: bs => by simp [PyData.eqvAll]
  | a :: as, [] => by simp [PyData.eqvAll]
  | a :: as, b :: bs => by
    simp only [List.map_cons, PyData.eqvAll, PyData.eqv, eqv_ints as bs]
    by_cases h1 : a = b <;> by_cases h2 : as = bs <;> simp [h1, h2]
theorem shaped_tup (l : List Int) : SeqAt.shaped (D.tup (l.map D.int)).toPy = true := by
  show ((PyData.tuple (toPyL (l.map D.int))).canLay0 && decide ((PyData.tuple (toPyL (l.map D.int))).depth ≤ 64)) = true
  rw [toPyL_map D.int PyData.int (fun _ => rfl)]
  refine Bool.and_eq_true_iff.mpr ⟨by rw [PyData.canLay0]; exact lay_ints l, decide_eq_true ?_⟩
  have := depth_ints l
  rw [PyData.depth]
  omega
theorem shaped_lst (l : List Int) : SeqAt.shaped (D.lst (l.map D.int)).toPy = true := by
  show ((PyData.list (toPyL (l.map D.int))).canLay0 && decide ((PyData.list (toPyL (l.map D.int))).depth ≤ 64)) = true
  rw [toPyL_map D.int PyData.int (fun _ => rfl)]
  refine Bool.and_eq_true_iff.mpr ⟨by rw [PyData.canLay0]; exact lay_ints l, decide_eq_true ?_⟩
  have := depth_ints l
  rw [PyData.depth]
  omega
theorem vEq_tup (neg : Bool) (a b : List Int) : vEq neg (.tup (a.map D.int)) (.tup (b.map D.int)) = some (.bl (if neg then !decide (a = b) else decide (a = b))) := by
  unfold vEq
  rw [if_pos ⟨shaped_tup a, shaped_tup b⟩]
  have : PyData.eqv (D.tup (a.map D.int)).toPy (D.tup (b.map D.int)).toPy = decide (a = b) := by
    show PyData.eqv (.tuple (toPyL (a.map D.int))) (.tuple (toPyL (b.map D.int))) = _
    rw [toPyL_map D.int PyData.int (fun _ => rfl), toPyL_map D.int PyData.int (fun _ => rfl), PyData.eqv, eqv_ints]
  rw [this]
theorem e_eqT (a b : List Int) : CK.f .eq (.tup (a.map D.int)) (.tup (b.map D.int)) = some (.bl (decide (a = b))) := vEq_tup false a b
theorem e_neT (a b : List Int) : CK.f .ne (.tup (a.map D.int)) (.tup (b.map D.int)) = some (.bl (!decide (a = b))) := vEq_tup true a b
theorem intsOf_map : ∀ l : List Int, intsOf (l.map D.int) = some l
  | [] => rfl
  | a :: l => by show (intsOf (l.map D.int)).map (a :: ·) = _; rw [intsOf_map l]; rfl
theorem e_minT (a : Int) (l : List Int) : fMin [.tup ((a :: l).map D.int)] = some (.int (minI a l)) := by show (intsOf ((a :: l).map D.int)).bind minOf = _; rw [intsOf_map]; rfl
theorem e_maxT (a : Int) (l : List Int) : fMax [.tup ((a :: l).map D.int)] = some (.int (maxI a l)) := by show (intsOf ((a :: l).map D.int)).bind maxOf = _; rw [intsOf_map]; rfl
theorem minI_eq {a x : Int} {l : List Int} (h1 : x ∈ a :: l) (h2 : ∀ y ∈ a :: l, x ≤ y) : minI a l = x := by
  obtain ⟨m1, m2⟩ := minI_mem l a
  have := m2 x h1
  have := h2 _ m1
  omega
theorem maxI_eq {a x : Int} {l : List Int} (h1 : x ∈ a :: l) (h2 : ∀ y ∈ a :: l, y ≤ x) : maxI a l = x := by
  obtain ⟨m1, m2⟩ := maxI_mem l a
  have := m2 x h1
  have := h2 _ m1
  omega
theorem bools_map (f : Int → Bool) : ∀ l : List Int, bools (l.map fun i => D.bl (f i)) = some (l.map f)
  | [] => rfl
  | a :: l => by show (bools (l.map fun i => D.bl (f i))).map (f a :: ·) = _; rw [bools_map f l]; rfl
theorem rng7 : rng 0 7 = [.int 0, .int 1, .int 2, .int 3, .int 4, .int 5, .int 6] := by kernel_rfl
def rng1K : D → ENV → R (List D) := fun x ρ1 => match x with
  | .int j => if rngOk j = true then .ok (rng 0 j) ρ1 else .bot
  | _ => .bot
theorem e_Rng1 (da : ENV → R D) (ρ : ENV) : dRng1 da ρ = (da ρ).bind rng1K := rfl
theorem e_rng1K (j : Int) (ρ : ENV) (h : rngOk j = true) : rng1K (.int j) ρ = .ok (rng 0 j) ρ := by
  show (if rngOk j = true then R.ok (rng 0 j) ρ else .bot) = _
  rw [if_pos h]
theorem rngOk7 : rngOk 7 = true := by decide
theorem d_rng7 (ρ : ENV) : dRng1 (dC (.int 7)) ρ = .ok [.int 0, .int 1, .int 2, .int 3, .int 4, .int 5, .int 6] ρ := by
  show (if rngOk 7 = true then R.ok (rng 0 7) ρ else .bot) = _
  rw [if_pos rngOk7, rng7]
/-! ### loops, turn by turn -/
def turnK (k : ENV → R Fl) : Fl → ENV → R Fl
  | .nx, ρ => k ρ
  | .ct, ρ => k ρ
  | .bk, ρ => .ok .nx ρ
  | .ret v, ρ => .ok (.ret v) ρ
theorem forL_nil (g : D → ENV → Option ENV) (body : ENV → R Fl) (ρ : ENV) : forL g body [] ρ = .ok .nx ρ := rfl
theorem forL_cons (g : D → ENV → Option ENV) (body : ENV → R Fl) (d : D) (ds : List D) (ρ ρ1 : ENV) (h : g d ρ = some ρ1) : forL g body (d :: ds) ρ = (body ρ1).bind (turnK (forL g body ds)) := by
  unfold forL
  rw [h]
  dsimp only
  cases body ρ1 with
  | ok f ρ => cases f <;> rfl
  | exc e ρ => rfl
  | bot => rfl
theorem e_forK (g : D → ENV → Option ENV) (body : ENV → R Fl) (ds : List D) (ρ : ENV) : forK g body ds ρ = forL g body ds ρ := rfl
theorem forL_set (i : Nat) (body : ENV → R Fl) (d : D) (ds : List D) (ρ : ENV) (h : i < ρ.length) : forL (gSet i) body (d :: ds) ρ = (body (ρ.set i (some (.sh d)))).bind (turnK (forL (gSet i) body ds)) :=
  forL_cons _ _ _ _ _ _ (e_gSet i d ρ h)
theorem e_tnN (k : ENV → R Fl) (ρ : ENV) : turnK k .nx ρ = k ρ := rfl
theorem e_tnC (k : ENV → R Fl) (ρ : ENV) : turnK k .ct ρ = k ρ := rfl
theorem e_tnB (k : ENV → R Fl) (ρ : ENV) : turnK k .bk ρ = .ok .nx ρ := rfl
theorem e_tnR (k : ENV → R Fl) (v : DV) (ρ : ENV) : turnK k (.ret v) ρ = .ok (.ret v) ρ := rfl
theorem e_frz (m : M) (ρ : ENV) : frz (.ok m ρ) = .ok m.toD ρ := rfl
/-! ### while -/
def whK (c : ENV → R Bool) (body : ENV → R Fl) (n : Nat) : Bool → ENV → R Fl := fun b ρ1 => if b = true then (body ρ1).bind (turnK (whileF c body n)) else .ok .nx ρ1
theorem whileF_succ (c : ENV → R Bool) (body : ENV → R Fl) (n : Nat) (ρ : ENV) : whileF c body (n + 1) ρ = (c ρ).bind (whK c body n) := by
  show (c ρ).bind _ = _
  refine congrArg (fun f => (c ρ).bind f) ?_
  funext b ρ1
  unfold whK
  cases b with
  | false => rfl
  | true =>
    simp only [if_true]
    cases body ρ1 with
    | ok f ρ => cases f <;> rfl
    | exc e ρ => rfl
    | bot => rfl
theorem e_whT (c : ENV → R Bool) (body : ENV → R Fl) (n : Nat) (ρ : ENV) : whK c body n true ρ = (body ρ).bind (turnK (whileF c body n)) := rfl
theorem e_whF (c : ENV → R Bool) (body : ENV → R Fl) (n : Nat) (ρ : ENV) : whK c body n false ρ = .ok .nx ρ := rfl
end Rf
set_option Elab.async false
set_option linter.all false
set_option maxRecDepth 100000
/-! RfU: more rules; tuples of ints kept folded -/
namespace Rf
open PySem PySem.Spec L2
theorem e_Raise (e : EX) (ρ : ENV) : sRaise e ρ = .exc e ρ := rfl
def parK (i j : Nat) (db : ENV → R D) : D → ENV → R Fl := fun x ρ1 => (db ρ1).bind fun y ρ2 => if i < ρ2.length ∧ j < ρ2.length then .ok .nx ((ρ2.set i (some (.sh x))).set j (some (.sh y))) else .bot
def parK2 (i j : Nat) (x : D) : D → ENV → R Fl := fun y ρ2 => if i < ρ2.length ∧ j < ρ2.length then .ok .nx ((ρ2.set i (some (.sh x))).set j (some (.sh y))) else .bot
theorem e_Par (i j : Nat) (da db : ENV → R D) (ρ : ENV) : sPar i j da db ρ = (da ρ).bind (parK i j db) := rfl
theorem e_parK (i j : Nat) (db : ENV → R D) (x : D) (ρ : ENV) : parK i j db x ρ = (db ρ).bind (parK2 i j x) := rfl
theorem e_parK2 (i j : Nat) (x y : D) (ρ : ENV) (hi : i < ρ.length) (hj : j < ρ.length) : parK2 i j x y ρ = .ok .nx ((ρ.set i (some (.sh x))).set j (some (.sh y))) := by unfold parK2; rw [if_pos ⟨hi, hj⟩]
def augK (i : Nat) (f : Int → Int → Int) (a : Int) : D → ENV → R Fl := fun d ρ1 => match d with
    | .int b => if i < ρ1.length then .ok .nx (ρ1.set i (some (.sh (.int (f a b))))) else .bot
    | _ => .bot
theorem e_Aug (i : Nat) (f : Int → Int → Int) (da : ENV → R D) (ρ : ENV) (a : Int) (h : ρ[i]? = some (some (.sh (.int a)))) : sAug i f da ρ = (da ρ).bind (augK i f a) := by unfold sAug; rw [h]; rfl
theorem e_augK (i : Nat) (f : Int → Int → Int) (a b : Int) (ρ : ENV) (hi : i < ρ.length) : augK i f a (.int b) ρ = .ok .nx (ρ.set i (some (.sh (.int (f a b))))) := by unfold augK; exact if_pos hi
def chK1 (f g : D → D → Option D) (db dc : ENV → R D) : D → ENV → R D := fun x ρ1 => (db ρ1).bind fun y ρ2 => match f x y with
  | some (.bl true) => (dc ρ2).bind fun z ρ3 => R.of (g y z) ρ3
  | some (.bl false) => .ok (.bl false) ρ2
  | _ => .bot
def chK3 (g : D → D → Option D) (dc : ENV → R D) (y : D) : Option D → ENV → R D := fun o ρ2 => match o with
  | some (.bl true) => (dc ρ2).bind (op1 (g y))
  | some (.bl false) => .ok (.bl false) ρ2
  | _ => .bot
def chK2 (f g : D → D → Option D) (dc : ENV → R D) (x : D) : D → ENV → R D := fun y ρ2 => chK3 g dc y (f x y) ρ2
theorem e_Ch (f g : D → D → Option D) (da db dc : ENV → R D) (ρ : ENV) : dChain f g da db dc ρ = (da ρ).bind (chK1 f g db dc) := rfl
theorem e_chK1 (f g : D → D → Option D) (db dc : ENV → R D) (x : D) (ρ : ENV) : chK1 f g db dc x ρ = (db ρ).bind (chK2 f g dc x) := by
  unfold chK1
  refine congrArg (fun k => (db ρ).bind k) ?_
  funext y ρ2
  unfold chK2 chK3
  cases f x y with
  | none => rfl
  | some d => cases d with
    | bl b => cases b <;> rfl
    | _ => rfl
theorem e_chK2 (f g : D → D → Option D) (dc : ENV → R D) (x y : D) (ρ : ENV) : chK2 f g dc x y ρ = chK3 g dc y (f x y) ρ := rfl
theorem e_chT (g : D → D → Option D) (dc : ENV → R D) (y : D) (ρ : ENV) : chK3 g dc y (some (.bl true)) ρ = (dc ρ).bind (op1 (g y)) := rfl
theorem e_chF (g : D → D → Option D) (dc : ENV → R D) (y : D) (ρ : ENV) : chK3 g dc y (some (.bl false)) ρ = .ok (.bl false) ρ := rfl
/-- a try-statement -/
def tryK (sub : Nat → Nat → Option Bool) (c : Nat) (ss : ENV → R Fl) : R Fl → R Fl
  | .exc e ρ1 => match sub e.c c with
    | some true => match ss ρ1 with
      | .exc _ _ => .bot
      | r => r
    | some false => .exc e ρ1
    | none => .bot
  | r => r
theorem e_Try (sub : Nat → Nat → Option Bool) (sb : ENV → R Fl) (c : Nat) (ss : ENV → R Fl) (ρ : ENV) : sTry sub sb c ss ρ = tryK sub c ss (sb ρ) := by
  unfold sTry tryK
  cases sb ρ <;> rfl
theorem e_tryO (sub : Nat → Nat → Option Bool) (c : Nat) (ss : ENV → R Fl) (f : Fl) (ρ : ENV) : tryK sub c ss (.ok f ρ) = .ok f ρ := rfl
theorem e_tryX (sub : Nat → Nat → Option Bool) (c : Nat) (ss : ENV → R Fl) (e : EX) (ρ ρ' : ENV) (f : Fl) (h : sub e.c c = some true) (h2 : ss ρ = .ok f ρ') : tryK sub c ss (.exc e ρ) = .ok f ρ' := by
  show (match sub e.c c with
    | some true => match ss ρ with
      | .exc _ _ => R.bot
      | r => r
    | some false => .exc e ρ
    | none => .bot) = _
  rw [h]
  dsimp only
  rw [h2]
theorem e_tru (b : Bool) : tru (.bl b) = some b := rfl
theorem e_truI (i : Int) : tru (.int i) = some (!(i == 0)) := by
  rfl
theorem line8 : (8 : Nat) ≤ sizeLine := by rw [sizeLine_eq]; decide
theorem e_tup1 (a : D) (ρ : ENV) : tupK [a] ρ = .ok (.tup [a]) ρ := e_tupK _ ρ (Nat.le_trans (show 1 ≤ 8 by decide) line8)
theorem e_lst1 (a : D) (ρ : ENV) : lstK [a] ρ = .ok (.lst [a]) ρ := e_lstK _ ρ (Nat.le_trans (show 1 ≤ 8 by decide) line8)
theorem e_tup2 (a b : D) (ρ : ENV) : tupK [a, b] ρ = .ok (.tup [a, b]) ρ := e_tupK _ ρ (Nat.le_trans (show 2 ≤ 8 by decide) line8)
theorem e_lst2 (a b : D) (ρ : ENV) : lstK [a, b] ρ = .ok (.lst [a, b]) ρ := e_lstK _ ρ (Nat.le_trans (show 2 ≤ 8 by decide) line8)
theorem e_tup3 (a b c : D) (ρ : ENV) : tupK [a, b, c] ρ = .ok (.tup [a, b, c]) ρ := e_tupK _ ρ (Nat.le_trans (show 3 ≤ 8 by decide) line8)
theorem e_lst3 (a b c : D) (ρ : ENV) : lstK [a, b, c] ρ = .ok (.lst [a, b, c]) ρ := e_lstK _ ρ (Nat.le_trans (show 3 ≤ 8 by decide) line8)
theorem e_tup4 (a b c d : D) (ρ : ENV) : tupK [a, b, c, d] ρ = .ok (.tup [a, b, c, d]) ρ := e_tupK _ ρ (Nat.le_trans (show 4 ≤ 8 by decide) line8)
theorem e_lst4 (a b c d : D) (ρ : ENV) : lstK [a, b, c, d] ρ = .ok (.lst [a, b, c, d]) ρ := e_lstK _ ρ (Nat.le_trans (show 4 ≤ 8 by decide) line8)
theorem e_tup5 (a b c d e : D) (ρ : ENV) : tupK [a, b, c, d, e] ρ = .ok (.tup [a, b, c, d, e]) ρ := e_tupK _ ρ (Nat.le_trans (show 5 ≤ 8 by decide) line8)
theorem e_lst5 (a b c d e : D) (ρ : ENV) : lstK [a, b, c, d, e] ρ = .ok (.lst [a, b, c, d, e]) ρ := e_lstK _ ρ (Nat.le_trans (show 5 ≤ 8 by decide) line8)
theorem e_tup6 (a b c d e f : D) (ρ : ENV) : tupK [a, b, c, d, e, f] ρ = .ok (.tup [a, b, c, d, e, f]) ρ := e_tupK _ ρ (Nat.le_trans (show 6 ≤ 8 by decide) line8)
theorem e_lst6 (a b c d e f : D) (ρ : ENV) : lstK [a, b, c, d, e, f] ρ = .ok (.lst [a, b, c, d, e, f]) ρ := e_lstK _ ρ (Nat.le_trans (show 6 ≤ 8 by decide) line8)
theorem e_tup7 (a b c d e f g : D) (ρ : ENV) : tupK [a, b, c, d, e, f, g] ρ = .ok (.tup [a, b, c, d, e, f, g]) ρ := e_tupK _ ρ (Nat.le_trans (show 7 ≤ 8 by decide) line8)
theorem e_lst7 (a b c d e f g : D) (ρ : ENV) : lstK [a, b, c, d, e, f, g] ρ = .ok (.lst [a, b, c, d, e, f, g]) ρ := e_lstK _ ρ (Nat.le_trans (show 7 ≤ 8 by decide) line8)
theorem e_tup8 (a b c d e f g h : D) (ρ : ENV) : tupK [a, b, c, d, e, f, g, h] ρ = .ok (.tup [a, b, c, d, e, f, g, h]) ρ := e_tupK _ ρ (Nat.le_trans (show 8 ≤ 8 by decide) line8)
theorem e_lst8 (a b c d e f g h : D) (ρ : ENV) : lstK [a, b, c, d, e, f, g, h] ρ = .ok (.lst [a, b, c, d, e, f, g, h]) ρ := e_lstK _ ρ (Nat.le_trans (show 8 ≤ 8 by decide) line8)
theorem e_While (n : ENV → Nat) (c : ENV → R Bool) (body : ENV → R Fl) (ρ : ENV) : sWhile n c body ρ = whileF c body (n ρ) ρ := rfl
theorem e_abs (i : Int) : fAbs [.int i] = some (.int (if i < 0 then -i else i)) := rfl
theorem e_max2 (i j : Int) : fMax [.int i, .int j] = some (.int (if j > i then j else i)) := rfl
theorem e_min2 (i j : Int) : fMin [.int i, .int j] = some (.int (if j < i then j else i)) := rfl
theorem e_gSq2 (i j : Nat) (a b : D) (ρ : ENV) (hi : i < ρ.length) (hj : j < ρ.length) : gSeq 2 (gsCons (gSet i) (gsCons (gSet j) gsNil)) (.tup [a, b]) ρ = some ((ρ.set i (some (.sh a))).set j (some (.sh b))) := by
  show (gSet i a ρ).bind (fun ρ1 => (gSet j b ρ1).bind fun ρ2 => some ρ2) = _
  rw [e_gSet i a ρ hi]
  show (gSet j b _).bind _ = _
  rw [e_gSet j b _ (by rw [List.length_set]; exact hj)]
  rfl
theorem e_addT (a b : List D) (h : a.length + b.length ≤ sizeLine) : vAdd (.tup a) (.tup b) = some (.tup (a ++ b)) := by
  show (if a.length + b.length ≤ sizeLine then some (D.tup (a ++ b)) else none) = _
  rw [if_pos h]
/-! ### tuples of ints -/
def tupI (l : List Int) : D := .tup (l.map D.int)
theorem t_fld (l : List Int) : D.tup (l.map D.int) = tupI l := rfl
theorem t_eq (a b : List Int) : CK.f .eq (tupI a) (tupI b) = some (.bl (decide (a = b))) := vEq_tup false a b
theorem t_ne (a b : List Int) : CK.f .ne (tupI a) (tupI b) = some (.bl (!decide (a = b))) := vEq_tup true a b
theorem t_len (l : List Int) : fLen [tupI l] = some (.int l.length) := by unfold tupI; rw [e_lenT, List.length_map]
theorem t_is (l : List Int) : (isTy "tuple" (tupI l)) = some true := rfl
theorem t_itm (l : List Int) (ρ : ENV) : itK (tupI l) ρ = .ok (l.map D.int) ρ := rfl
theorem t_of (l : List Int) : fTuple [.lst (l.map D.int)] = some (tupI l) := rfl
theorem t_of2 (l : List Int) : fTuple [.tup (l.map D.int)] = some (tupI l) := rfl
theorem t_lst (l : List Int) : fList [tupI l] = some (.lst (l.map D.int)) := rfl
theorem atI_map (f : Int → D) : ∀ (l : List Int) (i : Int) (x : Int), L2.atI l i = some x → L2.atI (l.map f) i = some (f x) := by
  intro l i x h
  unfold L2.atI at h ⊢
  rw [List.length_map]
  cases e : ixN l.length i with
  | none => rw [e] at h; cases h
  | some j =>
    rw [e] at h
    show (l.map f)[j]? = _
    rw [List.getElem?_map, show l[j]? = some x from h]; rfl
theorem t_ix {l : List Int} {i x : Int} (h : L2.atI l i = some x) : vIxI (tupI l) (.int i) = some (.int x) := atI_map D.int l i x h
theorem t_min (a : Int) (l : List Int) : fMin [tupI (a :: l)] = some (.int (minI a l)) := e_minT a l
theorem t_max (a : Int) (l : List Int) : fMax [tupI (a :: l)] = some (.int (maxI a l)) := e_maxT a l
theorem vEq_lst (neg : Bool) (a b : List Int) : vEq neg (.lst (a.map D.int)) (.lst (b.map D.int)) = some (.bl (if neg then !decide (a = b) else decide (a = b))) := by
  unfold vEq
  rw [if_pos ⟨shaped_lst a, shaped_lst b⟩]
  have : PyData.eqv (D.lst (a.map D.int)).toPy (D.lst (b.map D.int)).toPy = decide (a = b) := by
    show PyData.eqv (.list (toPyL (a.map D.int))) (.list (toPyL (b.map D.int))) = _
    rw [toPyL_map D.int PyData.int (fun _ => rfl), toPyL_map D.int PyData.int (fun _ => rfl), PyData.eqv, eqv_ints]
  rw [this]
theorem allTrue {α : Type} : ∀ l : List α, bools (l.map fun _ => D.bl true) = some (l.map fun _ => true)
  | [] => rfl
  | a :: l => by show (bools (l.map fun _ => D.bl true)).map (true :: ·) = _; rw [allTrue l]; rfl
theorem t_all {α : Type} (l : List α) : fAll [.lst (l.map fun _ => D.bl true)] = some (.bl true) := by
  show (bools _).map _ = _
  rw [allTrue]
  show some (D.bl ((l.map fun _ => true).all id)) = _
  have : (l.map fun _ => true).all id = true := by rw [List.all_map]; exact List.all_eq_true.mpr fun _ _ => rfl
  rw [this]
end Rf
set_option Elab.async false
set_option linter.all false
set_option maxRecDepth 100000
/-! Sv: sevens and hops, in plain Lean -/
namespace Sv
open PySem L2 Rf
def evens (k : Int) : List Int := [k, k, k, k, k, k, k]
def sawAt (w m r : Int) : Int := m + ((w - (r + m) - 1) % 7 + 1)
def saws (w m : Int) : List Int := [sawAt w m 0, sawAt w m 1, sawAt w m 2, sawAt w m 3, sawAt w m 4, sawAt w m 5, sawAt w m 6]
def evenD (k : Int) : D := .tup [.str "even", .int k]
def sawD (w m : Int) : D := .tup [.str "saw", .int w, .int m]
def R7 : List Int := [0, 1, 2, 3, 4, 5, 6]
def at7 (l : List Int) (r : Int) : Int := l.getD r.toNat 0
theorem atI_nn {α : Type} {xs : List α} {i : Int} {x : α} (h0 : 0 ≤ i) (h : xs[i.toNat]? = some x) : L2.atI xs i = some x := atN h0 h
theorem mem7 {r : Int} (h : r ∈ R7) : 0 ≤ r ∧ r ≤ 6 := by
  simp only [R7, List.mem_cons, List.not_mem_nil, or_false] at h
  omega
theorem at7_ok {l : List Int} (hl : l.length = 7) {r : Int} (h : r ∈ R7) : L2.atI l r = some (at7 l r) := by
  have := mem7 h
  refine atN this.1 ?_
  unfold at7
  rw [List.getD_eq_getElem?_getD, List.getElem?_eq_getElem (by omega)]
  rfl
theorem at7_evens (k : Int) {r : Int} (h : r ∈ R7) : at7 (evens k) r = k := by
  simp only [R7, List.mem_cons, List.not_mem_nil, or_false] at h
  rcases h with rfl | rfl | rfl | rfl | rfl | rfl | rfl <;> rfl
theorem at7_saws (w m : Int) {r : Int} (h : r ∈ R7) : at7 (saws w m) r = sawAt w m r := by
  simp only [R7, List.mem_cons, List.not_mem_nil, or_false] at h
  rcases h with rfl | rfl | rfl | rfl | rfl | rfl | rfl <;> rfl
theorem map7 {l : List Int} (hl : l.length = 7) : R7.map (at7 l) = l := by
  match l, hl with
  | [a, b, c, d, e, f, g], _ => rfl
theorem sawAt_lo (w m r : Int) : m + 1 ≤ sawAt w m r := by unfold sawAt; omega
theorem sawAt_hi (w m r : Int) : sawAt w m r ≤ m + 7 := by unfold sawAt; omega
theorem sawAt_mod (w m r : Int) (h0 : 0 ≤ w) (h6 : w ≤ 6) : (r + sawAt w m r) % 7 = w := by unfold sawAt; omega
theorem saws_min (w m : Int) : minI (sawAt w m 0) [sawAt w m 1, sawAt w m 2, sawAt w m 3, sawAt w m 4, sawAt w m 5, sawAt w m 6] = m + 1 := by
  refine minI_eq ?_ fun y hy => ?_
  · have : (w - m - 1) % 7 = 0 ∨ (w - m - 1) % 7 = 1 ∨ (w - m - 1) % 7 = 2 ∨ (w - m - 1) % 7 = 3 ∨ (w - m - 1) % 7 = 4 ∨ (w - m - 1) % 7 = 5 ∨ (w - m - 1) % 7 = 6 := by omega
    simp only [List.mem_cons, List.not_mem_nil, or_false, sawAt]
    omega
  · simp only [List.mem_cons, List.not_mem_nil, or_false] at hy
    rcases hy with rfl | rfl | rfl | rfl | rfl | rfl | rfl <;> exact sawAt_lo ..
theorem saws_max (w m : Int) : maxI (sawAt w m 0) [sawAt w m 1, sawAt w m 2, sawAt w m 3, sawAt w m 4, sawAt w m 5, sawAt w m 6] = m + 7 := by
  refine maxI_eq ?_ fun y hy => ?_
  · have : (w - m - 1) % 7 = 0 ∨ (w - m - 1) % 7 = 1 ∨ (w - m - 1) % 7 = 2 ∨ (w - m - 1) % 7 = 3 ∨ (w - m - 1) % 7 = 4 ∨ (w - m - 1) % 7 = 5 ∨ (w - m - 1) % 7 = 6 := by omega
    simp only [List.mem_cons, List.not_mem_nil, or_false, sawAt]
    omega
  · simp only [List.mem_cons, List.not_mem_nil, or_false] at hy
    rcases hy with rfl | rfl | rfl | rfl | rfl | rfl | rfl <;> exact sawAt_hi ..
theorem saws_ne (w m k : Int) : saws w m ≠ evens k := by
  intro h
  simp only [saws, evens, List.cons.injEq, and_true] at h
  obtain ⟨h0, h1, _⟩ := h
  unfold sawAt at h0 h1
  omega
theorem saws_inj (w m v n : Int) (h0 : 0 ≤ w) (h6 : w ≤ 6) (g0 : 0 ≤ v) (g6 : v ≤ 6) (h : saws w m = saws v n) : w = v ∧ m = n := by
  have e1 := saws_min w m
  have e2 := saws_min v n
  simp only [saws, List.cons.injEq, and_true] at h
  obtain ⟨a0, a1, a2, a3, a4, a5, a6⟩ := h
  rw [a0, a1, a2, a3, a4, a5, a6, e2] at e1
  have m1 := sawAt_mod w m 0 h0 h6
  have m2 := sawAt_mod v n 0 g0 g6
  rw [a0] at m1
  omega
theorem ext7 {a b : List Int} (ha : a.length = 7) (hb : b.length = 7) (h : ∀ r ∈ R7, at7 a r = at7 b r) : a = b := by
  rw [← map7 ha, ← map7 hb]
  exact List.map_congr_left h
/-! ### shapes -/
inductive Sh
  | ev (k : Int)
  | sw (w m : Int)
def Sh.lst : Sh → List Int
  | .ev k => evens k
  | .sw w m => saws w m
def Sh.d : Sh → D
  | .ev k => evenD k
  | .sw w m => sawD w m
def Sh.at : Sh → Int → Int
  | .ev k, _ => k
  | .sw w m, r => sawAt w m r
/-- within -/
def Sh.fit (B : Int) : Sh → Prop
  | .ev k => -B ≤ k ∧ k ≤ B
  | .sw w m => 0 ≤ w ∧ w ≤ 6 ∧ -B ≤ m ∧ m ≤ B
theorem Sh.len (s : Sh) : s.lst.length = 7 := by cases s <;> rfl
theorem Sh.at_eq (s : Sh) {r : Int} (h : r ∈ R7) : at7 s.lst r = s.at r := by
  cases s with
  | ev k => exact at7_evens k h
  | sw w m => exact at7_saws w m h
theorem Sh.atI (s : Sh) {r : Int} (h : r ∈ R7) : L2.atI s.lst r = some (s.at r) := by rw [← s.at_eq h]; exact at7_ok s.len h
theorem Sh.mono {B C : Int} {s : Sh} (h : s.fit B) (hb : B ≤ C) : s.fit C := by
  cases s with
  | ev k => obtain ⟨a, b⟩ := h; exact ⟨by omega, by omega⟩
  | sw w m => obtain ⟨a, b, c, d⟩ := h; exact ⟨a, b, by omega, by omega⟩
theorem Sh.map (s : Sh) : R7.map s.at = s.lst := by
  rw [← map7 s.len]
  exact (List.map_congr_left fun r h => (s.at_eq h).symm)
/-! ### hops -/
inductive Hop
  | pl (k : Int)
  | co (w : Int)
  | la (w : Int)
def Hop.d : Hop → D
  | .pl k => .tup [.str "plus", .int k]
  | .co w => .tup [.str "coming", .int w]
  | .la w => .tup [.str "last", .int w]
def Hop.fit : Hop → Prop
  | .pl k => -30 ≤ k ∧ k ≤ 30
  | .co w => 0 ≤ w ∧ w ≤ 6
  | .la w => 0 ≤ w ∧ w ≤ 6
def Sh.hop : Sh → Hop → Sh
  | .ev j, .pl k => .ev (j + k)
  | .sw w m, .pl k => .sw ((w + k) % 7) (m + k)
  | .ev j, .co w => .sw w j
  | .sw v m, .co w => .sw w (m + ((w - v - 1) % 7 + 1))
  | .ev j, .la w => .sw w (j - 8)
  | .sw v m, .la w => .sw w (m - ((v - w - 1) % 7 + 1))
/-- what a hop makes of one day -/
def Hop.on : Hop → Int → Int
  | .pl k, d => d + k
  | .co w, d => d + ((w - d - 1) % 7 + 1)
  | .la w, d => d - ((d - w - 1) % 7 + 1)
theorem hop_at {s : Sh} {h : Hop} {B : Int} (hs : s.fit B) (hh : match h with | .pl _ => True | h => h.fit) (r : Int) : h.on (r + s.at r) - r = (s.hop h).at r := by
  cases s with
  | ev k =>
    cases h with
    | pl j => simp only [Hop.on, Sh.hop, Sh.at]; omega
    | co w => obtain ⟨a, b⟩ := hh; simp only [Hop.on, Sh.hop, Sh.at, sawAt]; omega
    | la w => obtain ⟨a, b⟩ := hh; simp only [Hop.on, Sh.hop, Sh.at, sawAt]; omega
  | sw v m =>
    obtain ⟨c, d, _, _⟩ := hs
    cases h with
    | pl j => simp only [Hop.on, Sh.hop, Sh.at, sawAt]; omega
    | co w => obtain ⟨a, b⟩ := hh; simp only [Hop.on, Sh.hop, Sh.at, sawAt]; omega
    | la w => obtain ⟨a, b⟩ := hh; simp only [Hop.on, Sh.hop, Sh.at, sawAt]; omega
theorem hop_fit {s : Sh} {h : Hop} {B : Int} (hs : s.fit B) (hh : h.fit) : (s.hop h).fit (B + 30) := by
  cases s with
  | ev k =>
    obtain ⟨x, y⟩ := hs
    cases h with
    | pl j => obtain ⟨a, b⟩ := hh; exact ⟨by omega, by omega⟩
    | co w => obtain ⟨a, b⟩ := hh; exact ⟨a, b, by omega, by omega⟩
    | la w => obtain ⟨a, b⟩ := hh; exact ⟨a, b, by omega, by omega⟩
  | sw v m =>
    obtain ⟨c, d, x, y⟩ := hs
    cases h with
    | pl j => obtain ⟨a, b⟩ := hh; exact ⟨by omega, by omega, by omega, by omega⟩
    | co w => obtain ⟨a, b⟩ := hh; exact ⟨a, b, by omega, by omega⟩
    | la w => obtain ⟨a, b⟩ := hh; exact ⟨a, b, by omega, by omega⟩
/-! ### a number in hops -/
def stp (k : Int) : Int := if (if k < 30 then k else 30) > -30 then (if k < 30 then k else 30) else -30
def chops : Nat → Int → List Int
  | 0, _ => []
  | n + 1, k => if k = 0 then [] else stp k :: chops n (k - stp k)
def up (k : Int) : Int := ((if k < 0 then -k else k) + 29) / 30
theorem stp_lo (k : Int) : -30 ≤ stp k := by unfold stp; split <;> split <;> omega
theorem stp_hi (k : Int) : stp k ≤ 30 := by unfold stp; split <;> split <;> omega
theorem stp_up (k : Int) (h : k ≠ 0) : up (k - stp k) = up k - 1 := by
  unfold up stp
  repeat' split
  all_goals omega
theorem up0 (k : Int) : 0 ≤ up k := by unfold up; split <;> omega
theorem up_pos (k : Int) (h : k ≠ 0) : 1 ≤ up k := by unfold up; split <;> omega
theorem up_le (k n : Int) (h : -(30 * n) ≤ k) (h2 : k ≤ 30 * n) : up k ≤ n := by unfold up; split <;> omega
theorem chops_len : ∀ (n : Nat) (k : Int), up k ≤ n → ((chops n k).length : Int) = up k
  | 0, k, h => by have := up0 k; simp only [chops, List.length_nil]; omega
  | n + 1, k, h => by
    unfold chops
    by_cases hk : k = 0
    · subst hk; rfl
    · rw [if_neg hk, List.length_cons]
      have := stp_up k hk
      have := chops_len n (k - stp k) (by omega)
      omega
theorem chops_fit : ∀ (n : Nat) (k : Int), ∀ x ∈ chops n k, -30 ≤ x ∧ x ≤ 30
  | 0, k, x, h => by cases h
  | n + 1, k, x, h => by
    unfold chops at h
    split at h
    · cases h
    · rcases List.mem_cons.mp h with rfl | h
      · exact ⟨stp_lo k, stp_hi k⟩
      · exact chops_fit n _ x h
theorem chops_sum : ∀ (n : Nat) (k j : Int), up k ≤ n → ((chops n k).map Hop.pl).foldl Sh.hop (.ev j) = .ev (j + k)
  | 0, k, j, h => by
    have : k = 0 := by
      rcases Decidable.em (k = 0) with e | e
      · exact e
      · have := up_pos k e; omega
    subst this
    simp [chops]
  | n + 1, k, j, h => by
    unfold chops
    by_cases hk : k = 0
    · subst hk; simp
    · rw [if_neg hk]
      have := stp_up k hk
      show ((chops n (k - stp k)).map Hop.pl).foldl Sh.hop (.ev (j + stp k)) = _
      rw [chops_sum n _ _ (by omega)]
      exact congrArg Sh.ev (by omega)
/-- the fewest hops -/
def few : Sh → Int
  | .ev k => up k
  | .sw _ m => 1 + (if up (m + 8) < up m then up (m + 8) else up m)
/-- .. and some such hops -/
def least : Sh → List Hop
  | .ev k => (chops 200 k).map Hop.pl
  | .sw w m => if up m ≤ up (m + 8) then (chops 200 m).map Hop.pl ++ [.co w] else (chops 200 (m + 8)).map Hop.pl ++ [.la w]
theorem least_len {s : Sh} (h : s.fit 4000) : ((least s).length : Int) = few s := by
  cases s with
  | ev k =>
    obtain ⟨a, b⟩ := h
    unfold least few
    rw [List.length_map]
    exact chops_len 200 k (by have := up_le k 134 (by omega) (by omega); omega)
  | sw w m =>
    obtain ⟨_, _, a, b⟩ := h
    have h1 := chops_len 200 m (by have := up_le m 134 (by omega) (by omega); omega)
    have h2 := chops_len 200 (m + 8) (by have := up_le (m + 8) 134 (by omega) (by omega); omega)
    show (((if up m ≤ up (m + 8) then (chops 200 m).map Hop.pl ++ [.co w] else (chops 200 (m + 8)).map Hop.pl ++ [.la w]) : List Hop).length : Int) = 1 + (if up (m + 8) < up m then up (m + 8) else up m)
    split
    · rw [List.length_append, List.length_map, if_neg (by omega)]; simp only [List.length_cons, List.length_nil]; omega
    · rw [List.length_append, List.length_map, if_pos (by omega)]; simp only [List.length_cons, List.length_nil]; omega
theorem least_fit {s : Sh} (h : s.fit 4000) : ∀ x ∈ least s, x.fit := by
  cases s with
  | ev k =>
    intro x hx
    obtain ⟨y, hy, rfl⟩ := List.mem_map.mp hx
    exact chops_fit _ _ y hy
  | sw w m =>
    obtain ⟨a, b, _, _⟩ := h
    intro x hx
    have hx : x ∈ (if up m ≤ up (m + 8) then (chops 200 m).map Hop.pl ++ [.co w] else (chops 200 (m + 8)).map Hop.pl ++ [.la w]) := hx
    split at hx <;> rcases List.mem_append.mp hx with hx | hx
    · obtain ⟨y, hy, rfl⟩ := List.mem_map.mp hx
      exact chops_fit _ _ y hy
    · rw [List.mem_singleton] at hx; subst hx; exact ⟨a, b⟩
    · obtain ⟨y, hy, rfl⟩ := List.mem_map.mp hx
      exact chops_fit _ _ y hy
    · rw [List.mem_singleton] at hx; subst hx; exact ⟨a, b⟩
theorem least_sum {s : Sh} (h : s.fit 4000) : (least s).foldl Sh.hop (.ev 0) = s := by
  cases s with
  | ev k =>
    obtain ⟨a, b⟩ := h
    refine (chops_sum 200 k 0 (by have := up_le k 134 (by omega) (by omega); omega)).trans ?_
    exact congrArg Sh.ev (by omega)
  | sw w m =>
    obtain ⟨_, _, a, b⟩ := h
    have h1 := chops_sum 200 m 0 (by have := up_le m 134 (by omega) (by omega); omega)
    have h2 := chops_sum 200 (m + 8) 0 (by have := up_le (m + 8) 134 (by omega) (by omega); omega)
    show ((if up m ≤ up (m + 8) then (chops 200 m).map Hop.pl ++ [.co w] else (chops 200 (m + 8)).map Hop.pl ++ [.la w]) : List Hop).foldl Sh.hop (.ev 0) = .sw w m
    split
    · rw [List.foldl_append, h1]
      exact congrArg (Sh.sw w) (by omega)
    · rw [List.foldl_append, h2]
      exact congrArg (Sh.sw w) (by omega)
/-! ### rests alike -/
def alike (a b : List Int) : List Int := R7.filter fun r => at7 a r == at7 b r
def most : Sh → Sh → Int
  | .ev k, .ev j => if k = j then 7 else 0
  | .sw w m, .sw v n => if w = v then (let x := 7 - (if m - n < 0 then -(m - n) else m - n); if x > 0 then x else 0) else 0
  | .ev k, .sw _ m => if m < k ∧ k ≤ m + 7 then 1 else 0
  | .sw _ m, .ev k => if m < k ∧ k ≤ m + 7 then 1 else 0
theorem alike_sh (s t : Sh) : alike s.lst t.lst = R7.filter fun r => s.at r == t.at r := by
  unfold alike
  exact List.filter_congr fun r h => by rw [s.at_eq h, t.at_eq h]
theorem saw_u (w m r : Int) : sawAt w m r = m + (((w - m - 1) % 7 - r) % 7 + 1) := by unfold sawAt; omega
theorem cnt_es : ∀ u ∈ R7, ∀ x ∈ R7, (R7.filter fun r => x == (u - r) % 7).length = 1 := by decide
theorem cnt_ss : ∀ u ∈ R7, ∀ x ∈ R7, (R7.filter fun r => (u - r) % 7 + 1 == x + (((u - x) % 7 - r) % 7 + 1)).length = (7 - x).toNat := by decide
theorem in7 {r : Int} (h0 : 0 ≤ r) (h6 : r ≤ 6) : r ∈ R7 := by
  simp only [R7, List.mem_cons, List.not_mem_nil, or_false]
  omega
theorem alike_comm (a b : List Int) : alike a b = alike b a := by
  unfold alike
  exact List.filter_congr fun r h => by rw [Bool.beq_comm]
theorem none_len {p : Int → Bool} (h : ∀ r ∈ R7, p r = false) : (R7.filter p).length = 0 := by
  rw [List.filter_eq_nil_iff.mpr fun r hr => by rw [h r hr]; decide]
  rfl
theorem most_es (k w m : Int) : ((alike (Sh.ev k).lst (Sh.sw w m).lst).length : Int) = most (.ev k) (.sw w m) := by
  rw [alike_sh]
  show ((R7.filter fun r => k == sawAt w m r).length : Int) = if m < k ∧ k ≤ m + 7 then 1 else 0
  split
  · rename_i h
    have h2 := cnt_es ((w - m - 1) % 7) (in7 (by omega) (by omega)) (k - m - 1) (in7 (by omega) (by omega))
    rw [show (fun r => k == sawAt w m r) = fun r => k - m - 1 == ((w - m - 1) % 7 - r) % 7 from funext fun r => by rw [saw_u, Bool.eq_iff_iff, beq_iff_eq, beq_iff_eq]; omega, h2]
    rfl
  · rename_i h
    rw [none_len fun r hr => by have := sawAt_lo w m r; have := sawAt_hi w m r; exact beq_false_of_ne (by omega)]
    rfl
theorem most_ss0 (w m n : Int) (h : m ≤ n) : ((alike (saws w m) (saws w n)).length : Int) = if 7 - (n - m) > 0 then 7 - (n - m) else 0 := by
  rw [show saws w m = (Sh.sw w m).lst from rfl, show saws w n = (Sh.sw w n).lst from rfl, alike_sh]
  show ((R7.filter fun r => sawAt w m r == sawAt w n r).length : Int) = _
  split
  · rename_i h2
    have h3 := cnt_ss ((w - m - 1) % 7) (in7 (by omega) (by omega)) (n - m) (in7 (by omega) (by omega))
    rw [show (fun r => sawAt w m r == sawAt w n r) = fun r => ((w - m - 1) % 7 - r) % 7 + 1 == (n - m) + ((((w - m - 1) % 7 - (n - m)) % 7 - r) % 7 + 1) from funext fun r => by rw [saw_u, saw_u, Bool.eq_iff_iff, beq_iff_eq, beq_iff_eq]; omega, h3]
    omega
  · rename_i h2
    rw [none_len fun r hr => by have := sawAt_hi w m r; have := sawAt_lo w n r; exact beq_false_of_ne (by omega)]
    rfl
theorem alike_self (l : List Int) : (alike l l).length = 7 := by
  unfold alike
  rw [List.filter_eq_self.mpr fun r _ => beq_self_eq_true _]
  rfl
theorem most_ok {s t : Sh} {B C : Int} (hs : s.fit B) (ht : t.fit C) : ((alike s.lst t.lst).length : Int) = most s t := by
  cases s with
  | ev k =>
    cases t with
    | ev j =>
      rw [alike_sh]
      show ((R7.filter fun r => k == j).length : Int) = if k = j then 7 else 0
      split
      · rename_i h; subst h; rw [List.filter_eq_self.mpr fun r _ => beq_self_eq_true _]; rfl
      · rename_i h; rw [none_len fun r _ => beq_false_of_ne h]; rfl
    | sw w m => exact most_es k w m
  | sw w m =>
    cases t with
    | ev k => rw [alike_comm]; exact most_es k w m
    | sw v n =>
      obtain ⟨a, b, _, _⟩ := hs
      obtain ⟨c, d, _, _⟩ := ht
      by_cases e : w = v
      · subst e
        show ((alike (saws w m) (saws w n)).length : Int) = if w = w then (let x := 7 - (if m - n < 0 then -(m - n) else m - n); if x > 0 then x else 0) else 0
        rw [if_pos rfl]
        dsimp only
        by_cases h : m ≤ n
        · rw [most_ss0 w m n h]; repeat' split
          all_goals omega
        · rw [alike_comm, most_ss0 w n m (by omega)]; repeat' split
          all_goals omega
      · rw [alike_sh]
        show ((R7.filter fun r => sawAt w m r == sawAt v n r).length : Int) = if w = v then _ else 0
        rw [if_neg e, none_len fun r hr => beq_false_of_ne fun h => by
          have h1 := sawAt_mod w m r a b
          have h2 := sawAt_mod v n r c d
          rw [h] at h1
          omega]
        rfl
/-! ### one hop, two hops -/
theorem few1 {h : Hop} (hh : h.fit) : few ((Sh.ev 0).hop h) ≤ 1 := by
  cases h with
  | pl k => obtain ⟨a, b⟩ := hh; exact up_le _ 1 (by omega) (by omega)
  | co w => show 1 + (if up (0 + 8) < up 0 then up (0 + 8) else up 0) ≤ 1; decide
  | la w => show 1 + (if up (0 - 8 + 8) < up (0 - 8) then up (0 - 8 + 8) else up (0 - 8)) ≤ 1; decide
theorem few_sw (w m : Int) (h : (-30 ≤ m ∧ m ≤ 30) ∨ (-30 ≤ m + 8 ∧ m + 8 ≤ 30)) : few (.sw w m) ≤ 2 := by
  show 1 + (if up (m + 8) < up m then up (m + 8) else up m) ≤ 2
  rcases h with h | h
  · have := up_le m 1 (by omega) (by omega); split <;> omega
  · have := up_le (m + 8) 1 (by omega) (by omega); split <;> omega
theorem few2 {g h : Hop} (hg : g.fit) (hh : h.fit) : few (((Sh.ev 0).hop g).hop h) ≤ 2 := by
  cases g with
  | pl k =>
    obtain ⟨a, b⟩ := hg
    cases h with
    | pl j => obtain ⟨c, d⟩ := hh; exact up_le _ 2 (by omega) (by omega)
    | co w => exact few_sw _ _ (.inl ⟨by omega, by omega⟩)
    | la w => exact few_sw _ _ (.inr ⟨by omega, by omega⟩)
  | co w =>
    obtain ⟨a, b⟩ := hg
    cases h with
    | pl j => obtain ⟨c, d⟩ := hh; exact few_sw _ _ (.inl ⟨by omega, by omega⟩)
    | co v => obtain ⟨c, d⟩ := hh; exact few_sw _ _ (.inl ⟨by omega, by omega⟩)
    | la v => obtain ⟨c, d⟩ := hh; exact few_sw _ _ (.inl ⟨by omega, by omega⟩)
  | la w =>
    obtain ⟨a, b⟩ := hg
    cases h with
    | pl j => obtain ⟨c, d⟩ := hh; exact few_sw _ _ (.inr ⟨by omega, by omega⟩)
    | co v => obtain ⟨c, d⟩ := hh; exact few_sw _ _ (.inr ⟨by omega, by omega⟩)
    | la v => obtain ⟨c, d⟩ := hh; exact few_sw _ _ (.inl ⟨by omega, by omega⟩)
end Sv
set_option Elab.async false
set_option linter.all false
set_option maxRecDepth 100000
namespace L21
open PySem PySem.Spec L2 Rf
def FUEL : Nat := 1000000000
/-- which class stands under which -/
def subT (i j : Nat) : Option Bool := if i = 1 ∧ j = 1 then some true else none
abbrev g_MOST_PLUS : D := .int 30
/-- _law_hand(_law_script) -/
def b__law_hand : ENV → R Fl := sSeq (sAsg (dAdd (dB fLen (dCons (dVar 0) (dNil))) (dC (.int 17))) (gSet 1))
  (sSeq (sOwn (fLst (dNil)) 2)
  (sSeq (sFor (dItems (dVar 0)) (gSet 3) (sSeq (sAsg (dMod (dB fInt (dCons (dAdd (dMul (dVar 1) (dC (.int 1009))) (dB fInt (dCons (dVar 3) (dNil)))) (dNil))) (dC (.int 2147483629))) (gSet 1))
  (sApp 2 (dIf (dT (dCmp .ge (dVar 3) (dC (.int 0)))) (dB fInt (dCons (dVar 3) (dNil))) (dNeg (dB fInt (dCons (dVar 3) (dNil))))))))
  (sRetF (fLst (dCons (dVar 2) (dCons (dC (.int 0)) (dCons (dC (.int 0)) (dCons (dVar 1) (dNil)))))))))
def m__law_hand : List DV → FO := runF [] 4 b__law_hand
/-- _law_coming(_law_day, _law_weekday) -/
def b__law_coming : ENV → R Fl := sSeq (sFor (dRng1 (dC (.int 7))) (gSet 2) (sSeq (sAsg (dAdd (dVar 0) (dC (.int 1))) (gSet 0))
  (sIf (dT (dCmp .eq (dMod (dB fInt (dCons (dVar 0) (dNil))) (dC (.int 7))) (dVar 1))) (sRet (dVar 0)) (sNil))))
  (sRet (dVar 0))
def m__law_coming : List DV → FO := runF [] 3 b__law_coming
/-- _law_saw(_law_weekday, _law_m) -/
def b__law_saw : ENV → R Fl := sRet (dB fTuple (dCons ((fun ρ => frz ((fLc (dRng1 (dC (.int 7))) (gSet 2) (dYes) (dSub (dCall m__law_coming (aVal (dAdd (dVar 2) (dVar 1)) (aVal (dVar 0) (aNil)))) (dVar 2)) [2]) ρ))) (dNil)))
def m__law_saw : List DV → FO := runF [] 3 b__law_saw
/-- _law_mixed(_law_number, _law_turn) -/
def b__law_mixed : ENV → R Fl := sSeq (sAsg (dMod (dB fInt (dCons (dAdd (dAdd (dMul (dVar 0) (dC (.int 48271))) (dMul (dVar 1) (dC (.int 7919)))) (dC (.int 12345))) (dNil))) (dC (.int 2147483647))) (gSet 2))
  (sSeq (sAsg (dMod (dB fInt (dCons (dAdd (dAdd (dMul (dVar 2) (dVar 2)) (dMul (dVar 1) (dC (.int 104729)))) (dDiv (dVar 2) (dC (.int 127)))) (dNil))) (dC (.int 2147483629))) (gSet 3))
  (sRet (dDiv (dB fInt (dCons (dMod (dB fInt (dCons (dAdd (dMul (dVar 3) (dC (.int 69621))) (dDiv (dVar 2) (dC (.int 3)))) (dNil))) (dC (.int 2147483587))) (dNil))) (dC (.int 8)))))
def m__law_mixed : List DV → FO := runF [] 4 b__law_mixed
/-- _law_take(_law_hand_here, _law_many) -/
def b__law_take : ENV → R Fl := sSeq (sIf (dAnd (dT (dCmp .eq (dIxO 0 (dC (.int 2))) (dC (.int 0)))) (dT (dCmp .lt (dIxO 0 (dC (.int 1))) (dB fLen (dCons (dIxO 0 (dC (.int 0))) (dNil)))))) (sSeq (sAsg (dIx (dIxO 0 (dC (.int 0))) (dIxO 0 (dC (.int 1)))) (gSet 2))
  (sSeq (sSub 0 (dAdd (dIxO 0 (dC (.int 1))) (dC (.int 1))) (dC (.int 1)))
  (sSeq (sIf (dT (dCmp .lt (dVar 2) (dPow (dC (.int 10)) (dC (.int 18))))) (sRet (dMod (dB fInt (dCons (dCall m__law_mixed (aVal (dMod (dB fInt (dCons (dVar 2) (dNil))) (dC (.int 2147483647))) (aVal (dIxO 0 (dC (.int 1))) (aNil)))) (dNil))) (dVar 1))) (sNil))
  (sSub 0 (dVar 2) (dC (.int 2)))))) (sNil))
  (sSeq (sIf (dT (dCmp .gt (dIxO 0 (dC (.int 2))) (dC (.int 0)))) (sSeq (sAsg (dIxO 0 (dC (.int 2))) (gSet 3))
  (sSeq (sSub 0 (dDiv (dB fInt (dCons (dVar 3) (dNil))) (dVar 1)) (dC (.int 2)))
  (sRet (dMod (dB fInt (dCons (dVar 3) (dNil))) (dVar 1))))) (sNil))
  (sSeq (sSub 0 (dMod (dB fInt (dCons (dAdd (dIxO 0 (dC (.int 3))) (dC (.int 1))) (dNil))) (dC (.int 2147483629))) (dC (.int 3)))
  (sRet (dMod (dB fInt (dCons (dCall m__law_mixed (aVal (dIxO 0 (dC (.int 3))) (aVal (dIxO 0 (dC (.int 1))) (aNil)))) (dNil))) (dVar 1)))))
def m__law_take : List DV → FO := runF [0] 4 b__law_take
/-- _law_even(_law_k) -/
def b__law_even : ENV → R Fl := sRet (dTup (dCons (dVar 0) (dCons (dVar 0) (dCons (dVar 0) (dCons (dVar 0) (dCons (dVar 0) (dCons (dVar 0) (dCons (dVar 0) (dNil)))))))))
def m__law_even : List DV → FO := runF [] 1 b__law_even
/-- _law_far(_law_hand_here, _law_most_here) -/
def b__law_far : ENV → R Fl := sRet (dIf (dTru (dCall m__law_take (aIo 0 (aVal (dC (.int 2)) (aNil))))) (dSub (dCall m__law_take (aIo 0 (aVal (dAdd (dMul (dC (.int 2)) (dVar 1)) (dC (.int 1))) (aNil)))) (dVar 1)) (dSub (dCall m__law_take (aIo 0 (aVal (dC (.int 41)) (aNil)))) (dC (.int 20))))
def m__law_far : List DV → FO := runF [0] 2 b__law_far
/-- _law_sevens(_law_hand_here, _law_most_here) -/
def b__law_sevens : ENV → R Fl := sSeq (sIf (dT (dCmp .eq (dCall m__law_take (aIo 0 (aVal (dC (.int 3)) (aNil)))) (dC (.int 0)))) (sRet (dCall m__law_even (aVal (dCall m__law_far (aIo 0 (aVal (dVar 1) (aNil)))) (aNil)))) (sNil))
  (sRet (dCall m__law_saw (aVal (dCall m__law_take (aIo 0 (aVal (dC (.int 7)) (aNil)))) (aVal (dCall m__law_far (aIo 0 (aVal (dVar 1) (aNil)))) (aNil)))))
def m__law_sevens : List DV → FO := runF [0] 2 b__law_sevens
/-- _law_whole(_law_thing) -/
def b__law_whole : ENV → R Fl := sRet (dAndV (dIs (isTy "int") (dVar 0)) (dNotV (dIs (isTy "bool") (dVar 0))))
def m__law_whole : List DV → FO := runF [] 1 b__law_whole
/-- _law_shape(_law_offsets) -/
def b__law_shape : ENV → R Fl := sSeq (sIf (dOr (dNot (dTru (dIs (isTy "tuple") (dVar 0)))) (dT (dCmp .ne (dB fLen (dCons (dVar 0) (dNil))) (dC (.int 7))))) (sRet (dC .non)) (sNil))
  (sSeq (sFor (dItems (dVar 0)) (gSet 1) (sIf (dNot (dTru (dCall m__law_whole (aVal (dVar 1) (aNil))))) (sRet (dC .non)) (sNil)))
  (sSeq (sIf (dT (dCmp .eq (dVar 0) (dCall m__law_even (aVal (dIx (dVar 0) (dC (.int 0))) (aNil))))) (sRet (dTup (dCons (dC (.str "even")) (dCons (dIx (dVar 0) (dC (.int 0))) (dNil))))) (sNil))
  (sSeq (sAsg (dMod (dB fInt (dCons (dIx (dVar 0) (dC (.int 0))) (dNil))) (dC (.int 7))) (gSet 2))
  (sSeq (sAsg (dSub (dB fMin (dCons (dVar 0) (dNil))) (dC (.int 1))) (gSet 3))
  (sRet (dIf (dT (dCmp .eq (dCall m__law_saw (aVal (dVar 2) (aVal (dVar 3) (aNil)))) (dVar 0))) (dTup (dCons (dC (.str "saw")) (dCons (dVar 2) (dCons (dVar 3) (dNil))))) (dC .non)))))))
def m__law_shape : List DV → FO := runF [] 4 b__law_shape
/-- _law_near(_law_hand_here, _law_offsets) -/
def b__law_near : ENV → R Fl := sSeq (sAsg (dCall m__law_shape (aVal (dVar 1) (aNil))) (gSet 2))
  (sSeq (sAsg (dCall m__law_take (aIo 0 (aVal (dC (.int 5)) (aNil)))) (gSet 3))
  (sSeq (sAsg (dSub (dCall m__law_take (aIo 0 (aVal (dC (.int 17)) (aNil)))) (dC (.int 8))) (gSet 4))
  (sSeq (sIf (dT (dCmp .eq (dVar 3) (dC (.int 0)))) (sRet (dCall m__law_even (aVal (dIx (dVar 1) (dCall m__law_take (aIo 0 (aVal (dC (.int 7)) (aNil))))) (aNil)))) (sNil))
  (sSeq (sIf (dT (dCmp .eq (dVar 3) (dC (.int 1)))) (sRet (dIf (dT (dCmp .eq (dIx (dVar 2) (dC (.int 0))) (dC (.str "even")))) (dCall m__law_even (aVal (dAdd (dIx (dVar 2) (dC (.int 1))) (dVar 4)) (aNil))) (dCall m__law_saw (aVal (dIx (dVar 2) (dC (.int 1))) (aVal (dAdd (dIx (dVar 2) (dC (.int 2))) (dVar 4)) (aNil)))))) (sNil))
  (sSeq (sIf (dT (dCmp .eq (dVar 3) (dC (.int 2)))) (sRet (dCall m__law_saw (aVal (dCall m__law_take (aIo 0 (aVal (dC (.int 7)) (aNil)))) (aVal (dAdd (dIx (dVar 1) (dC (.int 0))) (dVar 4)) (aNil))))) (sNil))
  (sSeq (sIf (dT (dCmp .eq (dVar 3) (dC (.int 3)))) (sRet (dB fTuple (dCons ((fun ρ => frz ((fLc (dItems (dVar 1)) (gSet 5) (dYes) (dAdd (dVar 5) (dVar 4)) [5]) ρ))) (dNil)))) (sNil))
  (sRet (dCall m__law_sevens (aIo 0 (aVal (dC (.int 2900)) (aNil)))))))))))
def m__law_near : List DV → FO := runF [0] 6 b__law_near
/-- days_ahead(w, day) -/
def b_days_ahead : ENV → R Fl := sRet (dAdd (dMod (dSub (dSub (dVar 0) (dVar 1)) (dC (.int 1))) (dC (.int 7))) (dC (.int 1)))
def m_days_ahead : List DV → FO := runF [] 2 b_days_ahead
/-- saw_sevens(w, m) -/
def b_saw_sevens : ENV → R Fl := sRet (dB fTuple (dCons ((fun ρ => frz ((fLc (dRng1 (dC (.int 7))) (gSet 2) (dYes) (dAdd (dVar 1) (dCall m_days_ahead (aVal (dVar 0) (aVal (dAdd (dVar 2) (dVar 1)) (aNil))))) [2]) ρ))) (dNil)))
def m_saw_sevens : List DV → FO := runF [] 3 b_saw_sevens
/-- is_whole(thing) -/
def b_is_whole : ENV → R Fl := sRet (dAndV (dIs (isTy "int") (dVar 0)) (dNotV (dIs (isTy "bool") (dVar 0))))
def m_is_whole : List DV → FO := runF [] 1 b_is_whole
/-- shape_of_sevens(sevens) -/
def b_shape_of_sevens : ENV → R Fl := sSeq (sIf (dOr (dNot (dTru (dIs (isTy "tuple") (dVar 0)))) (dT (dCmp .ne (dB fLen (dCons (dVar 0) (dNil))) (dC (.int 7))))) (sRaise ⟨1, []⟩) (sNil))
  (sSeq (sIf (dNot (dTru (dB fAll (dCons ((fun ρ => frz ((fLc (dItems (dVar 0)) (gSet 3) (dYes) (dCall m_is_whole (aVal (dVar 3) (aNil))) [3]) ρ))) (dNil))))) (sRaise ⟨1, []⟩) (sNil))
  (sSeq (sAsg (dB fMin (dCons (dVar 0) (dNil))) (gSet 1))
  (sSeq (sIf (dT (dCmp .eq (dVar 1) (dB fMax (dCons (dVar 0) (dNil))))) (sRet (dTup (dCons (dC (.str "even")) (dCons (dVar 1) (dNil))))) (sNil))
  (sSeq (sAsg (dMod (dIx (dVar 0) (dC (.int 0))) (dC (.int 7))) (gSet 2))
  (sSeq (sIf (dT (dCmp .ne (dCall m_saw_sevens (aVal (dVar 2) (aVal (dSub (dVar 1) (dC (.int 1))) (aNil)))) (dVar 0))) (sRaise ⟨1, []⟩) (sNil))
  (sRet (dTup (dCons (dC (.str "saw")) (dCons (dVar 2) (dCons (dSub (dVar 1) (dC (.int 1))) (dNil)))))))))))
def m_shape_of_sevens : List DV → FO := runF [] 4 b_shape_of_sevens
/-- rests_alike(one, other) -/
def b_rests_alike : ENV → R Fl := sSeq (sExpr (dCall m_shape_of_sevens (aVal (dVar 0) (aNil))))
  (sSeq (sExpr (dCall m_shape_of_sevens (aVal (dVar 1) (aNil))))
  (sRet (dB fTuple (dCons ((fun ρ => frz ((fLc (dRng1 (dC (.int 7))) (gSet 2) (dT (dCmp .eq (dIx (dVar 0) (dVar 2)) (dIx (dVar 1) (dVar 2)))) (dVar 2) [2]) ρ))) (dNil)))))
def m_rests_alike : List DV → FO := runF [] 3 b_rests_alike
/-- _law_step(_law_hand_here) -/
def b__law_step : ENV → R Fl := sRet (dIf (dT (dCmp .eq (dCall m__law_take (aIo 0 (aVal (dC (.int 8)) (aNil)))) (dC (.int 0)))) (dSub (dCall m__law_take (aIo 0 (aVal (dC (.int 61)) (aNil)))) (dC (.int 30))) (dSub (dCall m__law_take (aIo 0 (aVal (dC (.int 7)) (aNil)))) (dC (.int 3))))
def m__law_step : List DV → FO := runF [0] 1 b__law_step
/-- _law_hop(_law_hand_here) -/
def b__law_hop : ENV → R Fl := sSeq (sAsg (dCall m__law_take (aIo 0 (aVal (dC (.int 4)) (aNil)))) (gSet 1))
  (sSeq (sIf (dT (dCmp .lt (dVar 1) (dC (.int 2)))) (sRet (dTup (dCons (dC (.str "plus")) (dCons (dCall m__law_step (aIo 0 (aNil))) (dNil))))) (sNil))
  (sRet (dTup (dCons (dIx (dLst (dCons (dC (.str "coming")) (dCons (dC (.str "last")) (dNil)))) (dSub (dVar 1) (dC (.int 2)))) (dCons (dCall m__law_take (aIo 0 (aVal (dC (.int 7)) (aNil)))) (dNil))))))
def m__law_hop : List DV → FO := runF [0] 2 b__law_hop
/-- _law_last(_law_day, _law_weekday) -/
def b__law_last : ENV → R Fl := sSeq (sFor (dRng1 (dC (.int 7))) (gSet 2) (sSeq (sAsg (dSub (dVar 0) (dC (.int 1))) (gSet 0))
  (sIf (dT (dCmp .eq (dMod (dB fInt (dCons (dVar 0) (dNil))) (dC (.int 7))) (dVar 1))) (sRet (dVar 0)) (sNil))))
  (sRet (dVar 0))
def m__law_last : List DV → FO := runF [] 3 b__law_last
/-- _law_counted(_law_day, _law_word) -/
def b__law_counted : ENV → R Fl := sSeq (sIf (dOr (dT (dCmp .eq (dIx (dVar 1) (dC (.int 0))) (dC (.str "coming")))) (dT (dCmp .eq (dIx (dVar 1) (dC (.int 0))) (dC (.str "then coming"))))) (sRet (dCall m__law_coming (aVal (dVar 0) (aVal (dIx (dVar 1) (dC (.int 1))) (aNil))))) (sNil))
  (sSeq (sIf (dOr (dT (dCmp .eq (dIx (dVar 1) (dC (.int 0))) (dC (.str "last")))) (dT (dCmp .eq (dIx (dVar 1) (dC (.int 0))) (dC (.str "then last"))))) (sRet (dCall m__law_last (aVal (dVar 0) (aVal (dIx (dVar 1) (dC (.int 1))) (aNil))))) (sNil))
  (sRet (dIf (dT (dCmp .eq (dIx (dVar 1) (dC (.int 0))) (dC (.str "date")))) (dIx (dVar 1) (dC (.int 1))) (dAdd (dVar 0) (dIx (dVar 1) (dC (.int 1)))))))
def m__law_counted : List DV → FO := runF [] 2 b__law_counted
/-- _law_hopped(_law_offsets, _law_hop_here) -/
def b__law_hopped : ENV → R Fl := sSeq (sAsg (dIf (dT (dCmp .eq (dIx (dVar 1) (dC (.int 0))) (dC (.str "plus")))) (dTup (dCons (dC (.str "today")) (dCons (dIx (dVar 1) (dC (.int 1))) (dNil)))) (dVar 1)) (gSet 2))
  (sRet (dB fTuple (dCons ((fun ρ => frz ((fLc (dRng1 (dC (.int 7))) (gSet 3) (dYes) (dSub (dCall m__law_counted (aVal (dAdd (dVar 3) (dIx (dVar 0) (dVar 3))) (aVal (dVar 2) (aNil)))) (dVar 3)) [3]) ρ))) (dNil))))
def m__law_hopped : List DV → FO := runF [] 4 b__law_hopped
/-- _law_pick(_law_hand_here, _law_things) -/
def b__law_pick : ENV → R Fl := sRet (dIx (dVar 1) (dCall m__law_take (aIo 0 (aVal (dB fLen (dCons (dVar 1) (dNil))) (aNil)))))
def m__law_pick : List DV → FO := runF [0] 2 b__law_pick
/-- _law_most(_law_one, _law_other) -/
def b__law_most : ENV → R Fl := sSeq (sIf (dT (dCmp .eq (dVar 0) (dVar 1))) (sRet (dC (.int 7))) (sNil))
  (sSeq (sPar 2 3 (dCall m__law_shape (aVal (dVar 0) (aNil))) (dCall m__law_shape (aVal (dVar 1) (aNil))))
  (sSeq (sIf (dAnd (dT (dCmp .eq (dIx (dVar 2) (dC (.int 0))) (dC (.str "saw")))) (dT (dCmp .eq (dIx (dVar 3) (dC (.int 0))) (dC (.str "saw"))))) (sRet (dIf (dT (dCmp .eq (dIx (dVar 2) (dC (.int 1))) (dIx (dVar 3) (dC (.int 1))))) (dB fMax (dCons (dC (.int 0)) (dCons (dSub (dC (.int 7)) (dB fAbs (dCons (dSub (dIx (dVar 2) (dC (.int 2))) (dIx (dVar 3) (dC (.int 2)))) (dNil)))) (dNil)))) (dC (.int 0)))) (sNil))
  (sSeq (sIf (dT (dCmp .eq (dIx (dVar 2) (dC (.int 0))) (dIx (dVar 3) (dC (.int 0))))) (sRet (dC (.int 0))) (sNil))
  (sSeq (sAsg (dIf (dT (dCmp .eq (dIx (dVar 2) (dC (.int 0))) (dC (.str "even")))) (dTup (dCons (dVar 2) (dCons (dVar 3) (dNil)))) (dTup (dCons (dVar 3) (dCons (dVar 2) (dNil))))) (gSeq 2 (gsCons (gSet 4) (gsCons (gSet 5) (gsNil)))))
  (sRet (dB fInt (dCons (dChain (CK.f .lt) (CK.f .le) (dIx (dVar 5) (dC (.int 2))) (dIx (dVar 4) (dC (.int 1))) (dAdd (dIx (dVar 5) (dC (.int 2))) (dC (.int 7)))) (dNil))))))))
def m__law_most : List DV → FO := runF [] 6 b__law_most
/-- pluses_to(k) -/
def b_pluses_to : ENV → R Fl := sSeq (sOwn (fLst (dNil)) 1)
  (sSeq (sAsg (dVar 0) (gSet 2))
  (sSeq (sWhile (fun _ => FUEL) (dT (dCmp .ne (dVar 2) (dC (.int 0)))) (sSeq (sAsg (dB fMax (dCons (dNeg (dC g_MOST_PLUS)) (dCons (dB fMin (dCons (dC g_MOST_PLUS) (dCons (dVar 2) (dNil)))) (dNil)))) (gSet 3))
  (sSeq (sApp 1 (dTup (dCons (dC (.str "plus")) (dCons (dVar 3) (dNil)))))
  (sAug 2 (fun i j => i - j) (dVar 3)))))
  (sRet (dB fTuple (dCons (dVar 1) (dNil))))))
def m_pluses_to : List DV → FO := runF [] 4 b_pluses_to
/-- least_hops(sevens) -/
def b_least_hops : ENV → R Fl := sSeq (sAsg (dCall m_shape_of_sevens (aVal (dVar 0) (aNil))) (gSet 1))
  (sSeq (sIf (dT (dCmp .eq (dIx (dVar 1) (dC (.int 0))) (dC (.str "even")))) (sRet (dCall m_pluses_to (aVal (dIx (dVar 1) (dC (.int 1))) (aNil)))) (sNil))
  (sSeq (sAsg (dCall m_pluses_to (aVal (dIx (dVar 1) (dC (.int 2))) (aNil))) (gSet 2))
  (sSeq (sAsg (dCall m_pluses_to (aVal (dAdd (dIx (dVar 1) (dC (.int 2))) (dC (.int 8))) (aNil))) (gSet 3))
  (sSeq (sIf (dT (dCmp .le (dB fLen (dCons (dVar 2) (dNil))) (dB fLen (dCons (dVar 3) (dNil))))) (sRet (dAdd (dVar 2) (dTup (dCons (dTup (dCons (dC (.str "coming")) (dCons (dIx (dVar 1) (dC (.int 1))) (dNil)))) (dNil))))) (sNil))
  (sRet (dAdd (dVar 3) (dTup (dCons (dTup (dCons (dC (.str "last")) (dCons (dIx (dVar 1) (dC (.int 1))) (dNil)))) (dNil)))))))))
def m_least_hops : List DV → FO := runF [] 4 b_least_hops
/-- _law_up(_law_number) -/
def b__law_up : ENV → R Fl := sRet (dDiv (dB fInt (dCons (dAdd (dB fAbs (dCons (dVar 0) (dNil))) (dC (.int 29))) (dNil))) (dC (.int 30)))
def m__law_up : List DV → FO := runF [] 1 b__law_up
/-- _law_fewest(_law_offsets) -/
def b__law_fewest : ENV → R Fl := sSeq (sAsg (dCall m__law_shape (aVal (dVar 0) (aNil))) (gSet 1))
  (sSeq (sIf (dT (dCmp .eq (dIx (dVar 1) (dC (.int 0))) (dC (.str "even")))) (sRet (dCall m__law_up (aVal (dIx (dVar 1) (dC (.int 1))) (aNil)))) (sNil))
  (sRet (dAdd (dC (.int 1)) (dB fMin (dCons (dCall m__law_up (aVal (dIx (dVar 1) (dC (.int 2))) (aNil))) (dCons (dCall m__law_up (aVal (dAdd (dIx (dVar 1) (dC (.int 2))) (dC (.int 8))) (aNil))) (dNil)))))))
def m__law_fewest : List DV → FO := runF [] 2 b__law_fewest
/-- _law_is_hop(_law_hop_here) -/
def b__law_is_hop : ENV → R Fl := sSeq (sIf (dOr (dNot (dTru (dIs (isTy "tuple") (dVar 0)))) (dOr (dT (dCmp .ne (dB fLen (dCons (dVar 0) (dNil))) (dC (.int 2)))) (dNot (dTru (dCall m__law_whole (aVal (dIx (dVar 0) (dC (.int 1))) (aNil))))))) (sRet (dC (.bl false))) (sNil))
  (sSeq (sIf (dT (dCmp .eq (dIx (dVar 0) (dC (.int 0))) (dC (.str "plus")))) (sRet (dChain (CK.f .le) (CK.f .le) (dNeg (dC (.int 30))) (dIx (dVar 0) (dC (.int 1))) (dC (.int 30)))) (sNil))
  (sRet (dAndV (dCmp .in_ (dIx (dVar 0) (dC (.int 0))) (dLst (dCons (dC (.str "coming")) (dCons (dC (.str "last")) (dNil))))) (dChain (CK.f .le) (CK.f .le) (dC (.int 0)) (dIx (dVar 0) (dC (.int 1))) (dC (.int 6))))))
def m__law_is_hop : List DV → FO := runF [] 1 b__law_is_hop
/-- _law_good_hops(_law_offsets, _law_hops) -/
def b__law_good_hops : ENV → R Fl := sSeq (sIf (dOr (dNot (dTru (dIs (isTy "tuple") (dVar 1)))) (dT (dCmp .ne (dB fLen (dCons (dVar 1) (dNil))) (dCall m__law_fewest (aVal (dVar 0) (aNil)))))) (sRet (dC (.bl false))) (sNil))
  (sSeq (sAsg (dCall m__law_even (aVal (dC (.int 0)) (aNil))) (gSet 2))
  (sSeq (sFor (dItems (dVar 1)) (gSet 3) (sSeq (sIf (dNot (dTru (dCall m__law_is_hop (aVal (dVar 3) (aNil))))) (sRet (dC (.bl false))) (sNil))
  (sAsg (dCall m__law_hopped (aVal (dVar 2) (aVal (dVar 3) (aNil)))) (gSet 2))))
  (sRet (dCmp .eq (dVar 2) (dVar 0)))))
def m__law_good_hops : List DV → FO := runF [] 4 b__law_good_hops
/-- _law_refused(_law_one, _law_other) -/
def b__law_refused : ENV → R Fl := sSeq (sTry subT (sExpr (dCall m_rests_alike (aVal (dVar 0) (aVal (dVar 1) (aNil))))) 1 (sRet (dC (.bl true))))
  (sRet (dC (.bl false)))
def m__law_refused : List DV → FO := runF [] 2 b__law_refused
/-- law(_law_script) -/
def b_law : ENV → R Fl := sSeq (sOwn (fCall m__law_hand (aVal (dVar 0) (aNil))) 1)
  (sSeq (sFor (dRng1 (dC (.int 4))) (gSet 2) (sSeq (sAsg (dCall m__law_sevens (aIo 1 (aVal (dIf (dT (dCmp .lt (dVar 2) (dC (.int 2)))) (dC (.int 2900)) (dC (.int 70))) (aNil)))) (gSet 3))
  (sSeq (sAsg (dCall m__law_near (aIo 1 (aVal (dVar 3) (aNil)))) (gSet 4))
  (sSeq (sAsg (dB fTuple (dCons ((fun ρ => frz ((fLc (dRng1 (dC (.int 7))) (gSet 11) (dT (dCmp .eq (dIx (dVar 3) (dVar 11)) (dIx (dVar 4) (dVar 11)))) (dVar 11) [11]) ρ))) (dNil))) (gSet 5))
  (sSeq (sAsg (dCall m_rests_alike (aVal (dVar 3) (aVal (dVar 4) (aNil)))) (gSet 6))
  (sSeq (sIf (dOr (dT (dCmp .ne (dVar 6) (dVar 5))) (dOr (dT (dCmp .ne ((fun ρ => frz ((fLc (dItems (dVar 6)) (gSet 11) (dNot (dTru (dCall m__law_whole (aVal (dVar 11) (aNil))))) (dVar 11) [11]) ρ))) (dLst (dNil)))) (dT (dCmp .ne (dCall m_rests_alike (aVal (dVar 4) (aVal (dVar 3) (aNil)))) (dVar 5))))) (sRet (dC (.bl false))) (sNil))
  (sSeq (sIf (dT (dCmp .ne (dB fLen (dCons (dVar 6) (dNil))) (dCall m__law_most (aVal (dVar 3) (aVal (dVar 4) (aNil)))))) (sRet (dC (.bl false))) (sNil))
  (sSeq (sFor (dItems (dLst (dCons (dVar 3) (dCons (dCall m__law_hopped (aVal (dVar 3) (aVal (dTup (dCons (dC (.str "plus")) (dCons (dVar 2) (dNil)))) (aNil)))) (dNil))))) (gSet 7) (sIf (dNot (dTru (dCall m__law_good_hops (aVal (dVar 7) (aVal (dCall m_least_hops (aVal (dVar 7) (aNil))) (aNil)))))) (sRet (dC (.bl false))) (sNil)))
  (sSeq (sAsg (dCall m__law_hop (aIo 1 (aNil))) (gSet 8))
  (sSeq (sAsg (dCall m__law_hopped (aVal (dCall m__law_hopped (aVal (dCall m__law_even (aVal (dC (.int 0)) (aNil))) (aVal (dVar 8) (aNil)))) (aVal (dCall m__law_hop (aIo 1 (aNil))) (aNil)))) (gSet 9))
  (sSeq (sIf (dOr (dT (dCmp .gt (dB fLen (dCons (dCall m_least_hops (aVal (dVar 9) (aNil))) (dNil))) (dC (.int 2)))) (dT (dCmp .gt (dB fLen (dCons (dCall m_least_hops (aVal (dCall m__law_hopped (aVal (dCall m__law_even (aVal (dC (.int 0)) (aNil))) (aVal (dVar 8) (aNil)))) (aNil))) (dNil))) (dC (.int 1))))) (sRet (dC (.bl false))) (sNil))
  (sSeq (sAsg (dCall m__law_pick (aIo 1 (aVal (dLst (dCons (dB fList (dCons (dVar 3) (dNil))) (dCons (dSl (dVar 3) (dNoPart) (dPart (dC (.int 6)))) (dCons (dAdd (dVar 3) (dTup (dCons (dC (.int 1)) (dNil)))) (dCons (dAdd (dSl (dVar 3) (dNoPart) (dPart (dC (.int 6)))) (dTup (dCons (dC (.bl true)) (dNil)))) (dCons (dC .non) (dNil))))))) (aNil)))) (gSet 10))
  (sIf (dOr (dNot (dTru (dCall m__law_refused (aVal (dVar 10) (aVal (dVar 3) (aNil)))))) (dNot (dTru (dCall m__law_refused (aVal (dVar 4) (aVal (dVar 10) (aNil))))))) (sRet (dC (.bl false))) (sNil))))))))))))))
  (sRet (dAndV (dCmp .eq (dCall m_least_hops (aVal (dCall m__law_even (aVal (dC (.int 0)) (aNil))) (aNil))) (dTup (dNil))) (dCmp .eq (dCall m_rests_alike (aVal (dCall m__law_even (aVal (dC (.int 0)) (aNil))) (aVal (dCall m__law_even (aVal (dC (.int 0)) (aNil))) (aNil)))) (dTup (dCons (dC (.int 0)) (dCons (dC (.int 1)) (dCons (dC (.int 2)) (dCons (dC (.int 3)) (dCons (dC (.int 4)) (dCons (dC (.int 5)) (dCons (dC (.int 6)) (dNil)))))))))))))
def m_law : List DV → FO := runF [] 12 b_law
end L21
set_option Elab.async false
set_option linter.all false
set_option maxRecDepth 100000
namespace L21
open PySem L2 Rf
/-! ### the hand -/
def hnd (cs : List Int) (a b t : Int) : M := .lst [.lst (cs.map D.int), .int a, .int b, .int t]
structure HandOk (cs : List Int) (a b t : Int) : Prop where
  len : cs.length ≤ 63
  pos : ∀ c ∈ cs, 0 ≤ c
  a0 : 0 ≤ a
  al : a ≤ cs.length
  b0 : 0 ≤ b
  t0 : 0 ≤ t
  tl : t < 2147483629
def Good (m : M) : Prop := ∃ cs a b t, m = hnd cs a b t ∧ HandOk cs a b t
def mixN (n t : Int) : Int :=
  let once := (n * 48271 + t * 7919 + 12345) % 2147483647
  let twice := (once * once + t * 104729 + once / 127) % 2147483629
  ((twice * 69621 + once / 3) % 2147483587) / 8
theorem cMul_r {i j : Int} (h : j.natAbs < 2 ^ 64) : cMul i j = true := by unfold cMul; simp only [h, decide_true, Bool.or_true, Bool.true_or]
theorem cMul_l {i j : Int} (h : i.natAbs < 2 ^ 64) : cMul i j = true := by unfold cMul; simp only [h, decide_true, Bool.or_true, Bool.true_or]
theorem cMod_p {i j : Int} (h : 0 < j) : cMod i j = true := by unfold cMod; exact decide_eq_true h
theorem cDiv_p {i j : Int} (h : 0 < j) (h9 : j.natAbs.log2 < 9000) : cDiv i j = true := by unfold cDiv; simp only [h, h9, decide_true, Bool.and_self]
theorem mixed_eq (n t : Int) : m__law_mixed [.sh (.int n), .sh (.int t)] = .ok (.sh (.int (mixN n t))) [] := by
  have h0 := Int.emod_nonneg (n * 48271 + t * 7919 + 12345) (show (2147483647 : Int) ≠ 0 by decide)
  have h1 := Int.emod_lt_of_pos (n * 48271 + t * 7919 + 12345) (show (0 : Int) < 2147483647 by decide)
  have c1 : ∀ i : Int, cMul i 48271 = true := fun i => cMul_r (by decide)
  have c2 : ∀ i : Int, cMul i 7919 = true := fun i => cMul_r (by decide)
  have c3 : ∀ i : Int, cMul i 104729 = true := fun i => cMul_r (by decide)
  have c4 : ∀ i : Int, cMul i 69621 = true := fun i => cMul_r (by decide)
  have c5 : cMul ((n * 48271 + t * 7919 + 12345) % 2147483647) ((n * 48271 + t * 7919 + 12345) % 2147483647) = true := cMul_r (by omega)
  have m1 : ∀ i : Int, cMod i 2147483647 = true := fun i => rfl
  have m2 : ∀ i : Int, cMod i 2147483629 = true := fun i => rfl
  have m3 : ∀ i : Int, cMod i 2147483587 = true := fun i => rfl
  have v1 : ∀ i : Int, cDiv i 127 = true := fun i => cDiv_p (by decide) (by decide)
  have v2 : ∀ i : Int, cDiv i 3 = true := fun i => cDiv_p (by decide) (by decide)
  have v3 : ∀ i : Int, cDiv i 8 = true := fun i => cDiv_p (by decide) (by decide)
  unfold m__law_mixed
  refine (e_run [] 4 _ _ rfl).trans ?_
  unfold b__law_mixed
  simp only [startE, List.map, List.length, List.replicate, e_Seq, e_Asg, e_Ret, e_RetF, e_Expr, e_exprK, e_op, e_op2, e_op1, e_un, e_is, e_B, e_bK, e_Cons, e_consK, e_consK2, e_Nil, e_var, e_C, e_bind, e_bindX, e_bindB, e_lookS, e_lookO, M.toD, e_of, e_asgK, e_gSet, e_stK, e_sqN, e_sqR, e_sqB, e_sqC, e_sNil, e_retK, e_retFK, e_add, e_vI, e_neg, e_fInt, e_fIntB, e_sIf, e_sifT, e_sifF, e_T, e_toB, e_Tru, e_truB, e_And, e_Or, e_andT, e_andF, e_orT, e_orF, e_Not, e_notK, e_AndV, e_OrV, e_andVT, e_andVF, e_orVT, e_orVF, e_NotV, e_notVK, e_If, e_ifT, e_ifF, e_Tup, e_Lst, e_LstF, e_tup0, e_lst0, e_lstF0, e_eqI, e_neI, e_ltI, e_leI, e_gtI, e_geI, e_lenL, e_lenT, e_lenR, e_lenS, e_ixL, e_ixT, at0, at1, at2, at3, e_tupL, e_tupT, e_lstT, e_Own, e_ownK, e_Sub, e_For, e_Items, e_itL, e_itT, e_itR, e_Call, e_CallF, e_aNil, e_aVal, e_aVK, e_aVK2, step0, step1, step2, step3, out0, out1, out2, out3, outX1, outX2, outO1, outO2, outO3, e_onSh, e_onOw, decide_true, decide_false, Bool.not_true, Bool.not_false, List.cons_append, List.nil_append, List.getElem?_cons_zero, List.getElem?_cons_succ, List.set_cons_zero, List.set_cons_succ, Nat.reduceLT, Nat.reduceAdd, Nat.reduceSub, Option.map_some, finF, outsE, e_frz, d_rng7, e_forK, e_tnN, e_tnC, e_tnB, e_tnR, e_whT, e_whF, e_vIc, c1, c2, c3, c4, c5, m1, m2, m3, v1, v2, v3, mixN]
/-- which way a number is taken -/
theorem take_ok {m : M} {n : Int} (hm : Good m) (hn : 0 < n) (h9 : n.natAbs.log2 < 9000) : ∃ r m', m__law_take [.ow m, .sh (.int n)] = .ok (.sh (.int r)) [m'] ∧ Good m' ∧ 0 ≤ r ∧ r < n := by
  obtain ⟨cs, a, b, t, rfl, H⟩ := hm
  have hmod : ∀ x : Int, 0 ≤ x % n ∧ x % n < n := fun x => ⟨Int.emod_nonneg x (by omega), Int.emod_lt_of_pos x hn⟩
  have c1 : ∀ i : Int, cMod i n = true := fun i => cMod_p hn
  have c2 : ∀ i : Int, cDiv i n = true := fun i => cDiv_p hn h9
  have m1 : ∀ i : Int, cMod i 2147483647 = true := fun i => rfl
  have m2 : ∀ i : Int, cMod i 2147483629 = true := fun i => rfl
  have p1 : cPow 10 18 = true := by decide
  have hb0 := H.b0
  by_cases hb : b = 0
  · subst hb
    by_cases ha : a < (cs.length : Int)
    · have hal : a.toNat < cs.length := by have := H.a0; omega
      have hc : L2.atI (cs.map D.int) a = some (.int (cs[a.toNat])) := atN H.a0 (by rw [List.getElem?_map, List.getElem?_eq_getElem hal]; rfl)
      have hcp : 0 ≤ cs[a.toNat] := H.pos _ (List.getElem_mem hal)
      generalize hcv : cs[a.toNat] = c at hc hcp
      have hae : a < ((cs.map D.int).length : Int) := by rw [List.length_map]; exact ha
      have H1 : HandOk cs (a + 1) 0 t := ⟨H.len, H.pos, by have := H.a0; omega, by omega, by omega, H.t0, H.tl⟩
      by_cases h18 : c < 10 ^ 18
      · refine ⟨mixN (c % 2147483647) (a + 1) % n, hnd cs (a + 1) 0 t, ?_, ⟨cs, a + 1, 0, t, rfl, H1⟩, (hmod _).1, (hmod _).2⟩
        unfold m__law_take
        refine (e_run [0] 4 _ _ rfl).trans ?_
        unfold b__law_take
        simp only [startE, List.map, List.length, List.replicate, e_Seq, e_Asg, e_Ret, e_RetF, e_Expr, e_exprK, e_op, e_op2, e_op1, e_un, e_is, e_B, e_bK, e_Cons, e_consK, e_consK2, e_Nil, e_var, e_C, e_bind, e_bindX, e_bindB, e_lookS, e_lookO, M.toD, e_of, e_asgK, e_gSet, e_stK, e_sqN, e_sqR, e_sqB, e_sqC, e_sNil, e_retK, e_retFK, e_add, e_vI, e_neg, e_fInt, e_fIntB, e_sIf, e_sifT, e_sifF, e_T, e_toB, e_Tru, e_truB, e_And, e_Or, e_andT, e_andF, e_orT, e_orF, e_Not, e_notK, e_AndV, e_OrV, e_andVT, e_andVF, e_orVT, e_orVF, e_NotV, e_notVK, e_If, e_ifT, e_ifF, e_Tup, e_Lst, e_LstF, e_tup0, e_lst0, e_lstF0, e_eqI, e_neI, e_ltI, e_leI, e_gtI, e_geI, e_lenL, e_lenT, e_lenR, e_lenS, e_ixL, e_ixT, at0, at1, at2, at3, e_tupL, e_tupT, e_lstT, e_Own, e_ownK, e_Sub, e_For, e_Items, e_itL, e_itT, e_itR, e_Call, e_CallF, e_aNil, e_aVal, e_aVK, e_aVK2, step0, step1, step2, step3, out0, out1, out2, out3, outX1, outX2, outO1, outO2, outO3, e_onSh, e_onOw, decide_true, decide_false, Bool.not_true, Bool.not_false, List.cons_append, List.nil_append, List.getElem?_cons_zero, List.getElem?_cons_succ, List.set_cons_zero, List.set_cons_succ, Nat.reduceLT, Nat.reduceAdd, Nat.reduceSub, Option.map_some, finF, outsE, e_frz, d_rng7, e_forK, e_tnN, e_tnC, e_tnB, e_tnR, e_whT, e_whF, hnd, e_ixO (ds := [D.lst (List.map D.int cs), D.int a, D.int 0, D.int t]), e_ixO2 (ds := [D.lst (List.map D.int cs), D.int a, D.int 0, D.int t]), beq_self_eq_true, hae, hc, e_vIc, p1, c1, c2, m1, m2, h18,
          e_subK (ds := [D.lst (List.map D.int cs), D.int a, D.int 0, D.int t]), e_ixO (ds := [D.lst (List.map D.int cs), D.int (a + 1), D.int 0, D.int t]), e_ixO2 (ds := [D.lst (List.map D.int cs), D.int (a + 1), D.int 0, D.int t]), mixed_eq, Int.reduceLE, Int.toNat_one, Int.reduceLT, Int.reduceToNat, Int.cast_ofNat_Int, List.length_cons, List.length_nil]
      · have hc0 : 0 < c := by omega
        have H2 : HandOk cs (a + 1) (c / n) t := ⟨H.len, H.pos, by have := H.a0; omega, by omega, Int.ediv_nonneg hcp (by omega), H.t0, H.tl⟩
        refine ⟨c % n, hnd cs (a + 1) (c / n) t, ?_, ⟨cs, a + 1, _, t, rfl, H2⟩, (hmod _).1, (hmod _).2⟩
        unfold m__law_take
        refine (e_run [0] 4 _ _ rfl).trans ?_
        unfold b__law_take
        simp only [startE, List.map, List.length, List.replicate, e_Seq, e_Asg, e_Ret, e_RetF, e_Expr, e_exprK, e_op, e_op2, e_op1, e_un, e_is, e_B, e_bK, e_Cons, e_consK, e_consK2, e_Nil, e_var, e_C, e_bind, e_bindX, e_bindB, e_lookS, e_lookO, M.toD, e_of, e_asgK, e_gSet, e_stK, e_sqN, e_sqR, e_sqB, e_sqC, e_sNil, e_retK, e_retFK, e_add, e_vI, e_neg, e_fInt, e_fIntB, e_sIf, e_sifT, e_sifF, e_T, e_toB, e_Tru, e_truB, e_And, e_Or, e_andT, e_andF, e_orT, e_orF, e_Not, e_notK, e_AndV, e_OrV, e_andVT, e_andVF, e_orVT, e_orVF, e_NotV, e_notVK, e_If, e_ifT, e_ifF, e_Tup, e_Lst, e_LstF, e_tup0, e_lst0, e_lstF0, e_eqI, e_neI, e_ltI, e_leI, e_gtI, e_geI, e_lenL, e_lenT, e_lenR, e_lenS, e_ixL, e_ixT, at0, at1, at2, at3, e_tupL, e_tupT, e_lstT, e_Own, e_ownK, e_Sub, e_For, e_Items, e_itL, e_itT, e_itR, e_Call, e_CallF, e_aNil, e_aVal, e_aVK, e_aVK2, step0, step1, step2, step3, out0, out1, out2, out3, outX1, outX2, outO1, outO2, outO3, e_onSh, e_onOw, decide_true, decide_false, Bool.not_true, Bool.not_false, List.cons_append, List.nil_append, List.getElem?_cons_zero, List.getElem?_cons_succ, List.set_cons_zero, List.set_cons_succ, Nat.reduceLT, Nat.reduceAdd, Nat.reduceSub, Option.map_some, finF, outsE, e_frz, d_rng7, e_forK, e_tnN, e_tnC, e_tnB, e_tnR, e_whT, e_whF, hnd, e_ixO (ds := [D.lst (List.map D.int cs), D.int a, D.int 0, D.int t]), e_ixO2 (ds := [D.lst (List.map D.int cs), D.int a, D.int 0, D.int t]), beq_self_eq_true, hae, hc, e_vIc, p1, c1, c2, m1, m2, h18,
          e_subK (ds := [D.lst (List.map D.int cs), D.int a, D.int 0, D.int t]), e_ixO (ds := [D.lst (List.map D.int cs), D.int (a + 1), D.int 0, D.int t]), e_ixO2 (ds := [D.lst (List.map D.int cs), D.int (a + 1), D.int 0, D.int t]), mixed_eq, Int.reduceLE, Int.toNat_one, Int.reduceLT, Int.reduceToNat, Int.cast_ofNat_Int, List.length_cons, List.length_nil, hc0, e_ixO (ds := [D.lst (List.map D.int cs), D.int (a + 1), D.int c, D.int t]), e_ixO2 (ds := [D.lst (List.map D.int cs), D.int (a + 1), D.int c, D.int t]),
          e_subK (ds := [D.lst (List.map D.int cs), D.int (a + 1), D.int 0, D.int t]), e_subK (ds := [D.lst (List.map D.int cs), D.int (a + 1), D.int c, D.int t])]
    · have hae : ¬ a < ((cs.map D.int).length : Int) := by rw [List.length_map]; exact ha
      have z0 : ¬ ((0 : Int) < 0) := by decide
      have H3 : HandOk cs a 0 ((t + 1) % 2147483629) := ⟨H.len, H.pos, H.a0, H.al, by omega, Int.emod_nonneg _ (by decide), Int.emod_lt_of_pos _ (by decide)⟩
      refine ⟨mixN ((t + 1) % 2147483629) a % n, hnd cs a 0 ((t + 1) % 2147483629), ?_, ⟨cs, a, 0, _, rfl, H3⟩, (hmod _).1, (hmod _).2⟩
      unfold m__law_take
      refine (e_run [0] 4 _ _ rfl).trans ?_
      unfold b__law_take
      simp only [startE, List.map, List.length, List.replicate, e_Seq, e_Asg, e_Ret, e_RetF, e_Expr, e_exprK, e_op, e_op2, e_op1, e_un, e_is, e_B, e_bK, e_Cons, e_consK, e_consK2, e_Nil, e_var, e_C, e_bind, e_bindX, e_bindB, e_lookS, e_lookO, M.toD, e_of, e_asgK, e_gSet, e_stK, e_sqN, e_sqR, e_sqB, e_sqC, e_sNil, e_retK, e_retFK, e_add, e_vI, e_neg, e_fInt, e_fIntB, e_sIf, e_sifT, e_sifF, e_T, e_toB, e_Tru, e_truB, e_And, e_Or, e_andT, e_andF, e_orT, e_orF, e_Not, e_notK, e_AndV, e_OrV, e_andVT, e_andVF, e_orVT, e_orVF, e_NotV, e_notVK, e_If, e_ifT, e_ifF, e_Tup, e_Lst, e_LstF, e_tup0, e_lst0, e_lstF0, e_eqI, e_neI, e_ltI, e_leI, e_gtI, e_geI, e_lenL, e_lenT, e_lenR, e_lenS, e_ixL, e_ixT, at0, at1, at2, at3, e_tupL, e_tupT, e_lstT, e_Own, e_ownK, e_Sub, e_For, e_Items, e_itL, e_itT, e_itR, e_Call, e_CallF, e_aNil, e_aVal, e_aVK, e_aVK2, step0, step1, step2, step3, out0, out1, out2, out3, outX1, outX2, outO1, outO2, outO3, e_onSh, e_onOw, decide_true, decide_false, Bool.not_true, Bool.not_false, List.cons_append, List.nil_append, List.getElem?_cons_zero, List.getElem?_cons_succ, List.set_cons_zero, List.set_cons_succ, Nat.reduceLT, Nat.reduceAdd, Nat.reduceSub, Option.map_some, finF, outsE, e_frz, d_rng7, e_forK, e_tnN, e_tnC, e_tnB, e_tnR, e_whT, e_whF, hnd, e_ixO (ds := [D.lst (List.map D.int cs), D.int a, D.int 0, D.int t]), e_ixO2 (ds := [D.lst (List.map D.int cs), D.int a, D.int 0, D.int t]), beq_self_eq_true, hae, z0, e_vIc, c1, c2, m1, m2,
        e_subK (ds := [D.lst (List.map D.int cs), D.int a, D.int 0, D.int t]), e_ixO (ds := [D.lst (List.map D.int cs), D.int a, D.int 0, D.int ((t + 1) % 2147483629)]), e_ixO2 (ds := [D.lst (List.map D.int cs), D.int a, D.int 0, D.int ((t + 1) % 2147483629)]), mixed_eq, Int.reduceLE, Int.toNat_one, Int.reduceLT, Int.reduceToNat, Int.cast_ofNat_Int, List.length_cons, List.length_nil]
  · have hbe : (b == 0) = false := beq_false_of_ne hb
    have hb1 : 0 < b := by omega
    have H2 : HandOk cs a (b / n) t := ⟨H.len, H.pos, H.a0, H.al, Int.ediv_nonneg hb0 (by omega), H.t0, H.tl⟩
    refine ⟨b % n, hnd cs a (b / n) t, ?_, ⟨cs, a, _, t, rfl, H2⟩, (hmod _).1, (hmod _).2⟩
    unfold m__law_take
    refine (e_run [0] 4 _ _ rfl).trans ?_
    unfold b__law_take
    simp only [startE, List.map, List.length, List.replicate, e_Seq, e_Asg, e_Ret, e_RetF, e_Expr, e_exprK, e_op, e_op2, e_op1, e_un, e_is, e_B, e_bK, e_Cons, e_consK, e_consK2, e_Nil, e_var, e_C, e_bind, e_bindX, e_bindB, e_lookS, e_lookO, M.toD, e_of, e_asgK, e_gSet, e_stK, e_sqN, e_sqR, e_sqB, e_sqC, e_sNil, e_retK, e_retFK, e_add, e_vI, e_neg, e_fInt, e_fIntB, e_sIf, e_sifT, e_sifF, e_T, e_toB, e_Tru, e_truB, e_And, e_Or, e_andT, e_andF, e_orT, e_orF, e_Not, e_notK, e_AndV, e_OrV, e_andVT, e_andVF, e_orVT, e_orVF, e_NotV, e_notVK, e_If, e_ifT, e_ifF, e_Tup, e_Lst, e_LstF, e_tup0, e_lst0, e_lstF0, e_eqI, e_neI, e_ltI, e_leI, e_gtI, e_geI, e_lenL, e_lenT, e_lenR, e_lenS, e_ixL, e_ixT, at0, at1, at2, at3, e_tupL, e_tupT, e_lstT, e_Own, e_ownK, e_Sub, e_For, e_Items, e_itL, e_itT, e_itR, e_Call, e_CallF, e_aNil, e_aVal, e_aVK, e_aVK2, step0, step1, step2, step3, out0, out1, out2, out3, outX1, outX2, outO1, outO2, outO3, e_onSh, e_onOw, decide_true, decide_false, Bool.not_true, Bool.not_false, List.cons_append, List.nil_append, List.getElem?_cons_zero, List.getElem?_cons_succ, List.set_cons_zero, List.set_cons_succ, Nat.reduceLT, Nat.reduceAdd, Nat.reduceSub, Option.map_some, finF, outsE, e_frz, d_rng7, e_forK, e_tnN, e_tnC, e_tnB, e_tnR, e_whT, e_whF, hnd, e_ixO (ds := [D.lst (List.map D.int cs), D.int a, D.int b, D.int t]), e_ixO2 (ds := [D.lst (List.map D.int cs), D.int a, D.int b, D.int t]), hbe, hb1, e_vIc, c1, c2, m1, m2,
      e_subK (ds := [D.lst (List.map D.int cs), D.int a, D.int b, D.int t]), Int.reduceLE, Int.toNat_one, Int.reduceLT, Int.reduceToNat, Int.cast_ofNat_Int, List.length_cons, List.length_nil]
/-- the hand is made of the script -/
def tot0 : List Int → Int → Int
  | [], t => t
  | c :: r, t => tot0 r ((t * 1009 + c) % 2147483629)
theorem tot0_ok : ∀ (r : List Int) (t : Int), r = [] ∨ (0 ≤ tot0 r t ∧ tot0 r t < 2147483629)
  | [], t => .inl rfl
  | c :: r, t => by
    right
    have h1 := Int.emod_nonneg (t * 1009 + c) (show (2147483629 : Int) ≠ 0 by decide)
    have h2 := Int.emod_lt_of_pos (t * 1009 + c) (show (0 : Int) < 2147483629 by decide)
    rcases tot0_ok r ((t * 1009 + c) % 2147483629) with h | h
    · subst h; exact ⟨h1, h2⟩
    · exact h
def ab (c : Int) : Int := if c ≥ 0 then c else -c
theorem hand_loop (s : D) : ∀ (r : List Int) (t : Int) (acc : List Int) (o : Option DV), acc.length + r.length ≤ 63 → ∃ o', forL (gSet 3) (sSeq (sAsg (dMod (dB fInt (dCons (dAdd (dMul (dVar 1) (dC (.int 1009))) (dB fInt (dCons (dVar 3) (dNil)))) (dNil))) (dC (.int 2147483629))) (gSet 1))
  (sApp 2 (dIf (dT (dCmp .ge (dVar 3) (dC (.int 0)))) (dB fInt (dCons (dVar 3) (dNil))) (dNeg (dB fInt (dCons (dVar 3) (dNil))))))) (r.map D.int) [some (.sh s), some (.sh (.int t)), some (.ow (.lst (acc.map D.int))), o]
    = .ok .nx [some (.sh s), some (.sh (.int (tot0 r t))), some (.ow (.lst ((acc ++ r.map ab).map D.int))), o'] := by
  intro r
  induction r with
  | nil => intro t acc o _; exact ⟨o, by simp only [List.map, forL, tot0, List.append_nil]⟩
  | cons c r ih =>
    intro t acc o hl
    obtain ⟨o', h⟩ := ih ((t * 1009 + c) % 2147483629) (acc ++ [ab c]) (some (.sh (.int c))) (by rw [List.length_append]; simp only [List.length_cons, List.length_nil] at hl ⊢; omega)
    refine ⟨o', ?_⟩
    have c1 : ∀ i : Int, cMul i 1009 = true := fun i => cMul_r (by decide)
    have m1 : ∀ i : Int, cMod i 2147483629 = true := fun i => rfl
    have hsz : (acc.map D.int).length < sizeLine := by rw [List.length_map, sizeLine_eq]; simp only [List.length_cons] at hl; omega
    rw [show acc ++ (c :: r).map ab = (acc ++ [ab c]) ++ r.map ab by simp]
    show forL _ _ (D.int c :: r.map D.int) _ = _
    unfold forL
    rw [show tot0 (c :: r) t = tot0 r ((t * 1009 + c) % 2147483629) from rfl, ← h]
    by_cases hc : 0 ≤ c
    · have e : (acc ++ [ab c]).map D.int = acc.map D.int ++ [D.int c] := by rw [List.map_append, show ab c = c by unfold ab; rw [if_pos hc]]; rfl
      rw [e]
      simp only [startE, List.map, List.length, List.replicate, e_Seq, e_Asg, e_Ret, e_RetF, e_Expr, e_exprK, e_op, e_op2, e_op1, e_un, e_is, e_B, e_bK, e_Cons, e_consK, e_consK2, e_Nil, e_var, e_C, e_bind, e_bindX, e_bindB, e_lookS, e_lookO, M.toD, e_of, e_asgK, e_gSet, e_stK, e_sqN, e_sqR, e_sqB, e_sqC, e_sNil, e_retK, e_retFK, e_add, e_vI, e_neg, e_fInt, e_fIntB, e_sIf, e_sifT, e_sifF, e_T, e_toB, e_Tru, e_truB, e_And, e_Or, e_andT, e_andF, e_orT, e_orF, e_Not, e_notK, e_AndV, e_OrV, e_andVT, e_andVF, e_orVT, e_orVF, e_NotV, e_notVK, e_If, e_ifT, e_ifF, e_Tup, e_Lst, e_LstF, e_tup0, e_lst0, e_lstF0, e_eqI, e_neI, e_ltI, e_leI, e_gtI, e_geI, e_lenL, e_lenT, e_lenR, e_lenS, e_ixL, e_ixT, at0, at1, at2, at3, e_tupL, e_tupT, e_lstT, e_Own, e_ownK, e_Sub, e_For, e_Items, e_itL, e_itT, e_itR, e_Call, e_CallF, e_aNil, e_aVal, e_aVK, e_aVK2, step0, step1, step2, step3, out0, out1, out2, out3, outX1, outX2, outO1, outO2, outO3, e_onSh, e_onOw, decide_true, decide_false, Bool.not_true, Bool.not_false, List.cons_append, List.nil_append, List.getElem?_cons_zero, List.getElem?_cons_succ, List.set_cons_zero, List.set_cons_succ, Nat.reduceLT, Nat.reduceAdd, Nat.reduceSub, Option.map_some, finF, outsE, e_frz, d_rng7, e_forK, e_tnN, e_tnC, e_tnB, e_tnR, e_whT, e_whF, e_vIc, c1, m1, e_App (ds := acc.map D.int), hc, e_appK (ds := acc.map D.int) (hl := hsz)]
    · have e : (acc ++ [ab c]).map D.int = acc.map D.int ++ [D.int (-c)] := by rw [List.map_append, show ab c = -c by unfold ab; rw [if_neg hc]]; rfl
      rw [e]
      simp only [startE, List.map, List.length, List.replicate, e_Seq, e_Asg, e_Ret, e_RetF, e_Expr, e_exprK, e_op, e_op2, e_op1, e_un, e_is, e_B, e_bK, e_Cons, e_consK, e_consK2, e_Nil, e_var, e_C, e_bind, e_bindX, e_bindB, e_lookS, e_lookO, M.toD, e_of, e_asgK, e_gSet, e_stK, e_sqN, e_sqR, e_sqB, e_sqC, e_sNil, e_retK, e_retFK, e_add, e_vI, e_neg, e_fInt, e_fIntB, e_sIf, e_sifT, e_sifF, e_T, e_toB, e_Tru, e_truB, e_And, e_Or, e_andT, e_andF, e_orT, e_orF, e_Not, e_notK, e_AndV, e_OrV, e_andVT, e_andVF, e_orVT, e_orVF, e_NotV, e_notVK, e_If, e_ifT, e_ifF, e_Tup, e_Lst, e_LstF, e_tup0, e_lst0, e_lstF0, e_eqI, e_neI, e_ltI, e_leI, e_gtI, e_geI, e_lenL, e_lenT, e_lenR, e_lenS, e_ixL, e_ixT, at0, at1, at2, at3, e_tupL, e_tupT, e_lstT, e_Own, e_ownK, e_Sub, e_For, e_Items, e_itL, e_itT, e_itR, e_Call, e_CallF, e_aNil, e_aVal, e_aVK, e_aVK2, step0, step1, step2, step3, out0, out1, out2, out3, outX1, outX2, outO1, outO2, outO3, e_onSh, e_onOw, decide_true, decide_false, Bool.not_true, Bool.not_false, List.cons_append, List.nil_append, List.getElem?_cons_zero, List.getElem?_cons_succ, List.set_cons_zero, List.set_cons_succ, Nat.reduceLT, Nat.reduceAdd, Nat.reduceSub, Option.map_some, finF, outsE, e_frz, d_rng7, e_forK, e_tnN, e_tnC, e_tnB, e_tnR, e_whT, e_whF, e_vIc, c1, m1, e_App (ds := acc.map D.int), hc, e_appK (ds := acc.map D.int) (hl := hsz)]
theorem hand_ok (ns : List Int) (hn : ns.length ≤ 63) : ∃ m, m__law_hand [.sh (.scr (ns.map D.int))] = .ok (.ow m) [] ∧ Good m := by
  have hlen : ((ns.map D.int).length : Int) = ns.length := by rw [List.length_map]
  obtain ⟨o', h⟩ := hand_loop (.scr (ns.map D.int)) ns (((ns.map D.int).length : Int) + 17) [] none (by simpa using hn)
  refine ⟨hnd (ns.map ab) 0 0 (tot0 ns (((ns.map D.int).length : Int) + 17)), ?_, _, _, _, _, rfl, ⟨by rw [List.length_map]; exact hn, fun c hc => ?_, by omega, by omega, by omega, ?_, ?_⟩⟩
  · unfold m__law_hand
    refine (e_run [] 4 _ _ rfl).trans ?_
    unfold b__law_hand
    simp only [List.nil_append, List.map_nil] at h
    simp only [startE, List.map, List.length, List.replicate, e_Seq, e_Asg, e_Ret, e_RetF, e_Expr, e_exprK, e_op, e_op2, e_op1, e_un, e_is, e_B, e_bK, e_Cons, e_consK, e_consK2, e_Nil, e_var, e_C, e_bind, e_bindX, e_bindB, e_lookS, e_lookO, M.toD, e_of, e_asgK, e_gSet, e_stK, e_sqN, e_sqR, e_sqB, e_sqC, e_sNil, e_retK, e_retFK, e_add, e_vI, e_neg, e_fInt, e_fIntB, e_sIf, e_sifT, e_sifF, e_T, e_toB, e_Tru, e_truB, e_And, e_Or, e_andT, e_andF, e_orT, e_orF, e_Not, e_notK, e_AndV, e_OrV, e_andVT, e_andVF, e_orVT, e_orVF, e_NotV, e_notVK, e_If, e_ifT, e_ifF, e_Tup, e_Lst, e_LstF, e_tup0, e_lst0, e_lstF0, e_eqI, e_neI, e_ltI, e_leI, e_gtI, e_geI, e_lenL, e_lenT, e_lenR, e_lenS, e_ixL, e_ixT, at0, at1, at2, at3, e_tupL, e_tupT, e_lstT, e_Own, e_ownK, e_Sub, e_For, e_Items, e_itL, e_itT, e_itR, e_Call, e_CallF, e_aNil, e_aVal, e_aVK, e_aVK2, step0, step1, step2, step3, out0, out1, out2, out3, outX1, outX2, outO1, outO2, outO3, e_onSh, e_onOw, decide_true, decide_false, Bool.not_true, Bool.not_false, List.cons_append, List.nil_append, List.getElem?_cons_zero, List.getElem?_cons_succ, List.set_cons_zero, List.set_cons_succ, Nat.reduceLT, Nat.reduceAdd, Nat.reduceSub, Option.map_some, finF, outsE, e_frz, d_rng7, e_forK, e_tnN, e_tnC, e_tnB, e_tnR, e_whT, e_whF, forK, h, e_lstF, List.length_cons, List.length_nil, hnd, sizeLine_eq, Nat.reduceLeDiff]
  · obtain ⟨x, hx, rfl⟩ := List.mem_map.mp hc
    unfold ab; split <;> omega
  · rcases tot0_ok ns (((ns.map D.int).length : Int) + 17) with h | h
    · subst h; show (0 : Int) ≤ 17; decide
    · exact h.1
  · rcases tot0_ok ns (((ns.map D.int).length : Int) + 17) with h | h
    · subst h; show (17 : Int) < 2147483629; decide
    · exact h.2
end L21
set_option Elab.async false
set_option linter.all false
set_option maxRecDepth 100000
namespace L21
open PySem L2 Rf Sv
theorem saw_sevens_ok (w m : Int) : m_saw_sevens [.sh (.int w), .sh (.int m)] = .ok (.sh (tupI (saws w m))) [] := by kernel_rfl
theorem even_ok (k : Int) : m__law_even [.sh (.int k)] = .ok (.sh (tupI (evens k))) [] := by kernel_rfl
theorem whole_ok (k : Int) : m__law_whole [.sh (.int k)] = .ok (.sh (.bl true)) [] := by kernel_rfl
theorem is_whole_ok (k : Int) : m_is_whole [.sh (.int k)] = .ok (.sh (.bl true)) [] := by kernel_rfl
theorem coming_ok (d w : Int) (h0 : 0 ≤ w) (h6 : w ≤ 6) : m__law_coming [.sh (.int d), .sh (.int w)] = .ok (.sh (.int (d + ((w - d - 1) % 7 + 1)))) [] := by
  have m7 : ∀ i : Int, cMod i 7 = true := fun i => rfl
  have hx : (w - d - 1) % 7 = 0 ∨ (w - d - 1) % 7 = 1 ∨ (w - d - 1) % 7 = 2 ∨ (w - d - 1) % 7 = 3 ∨ (w - d - 1) % 7 = 4 ∨ (w - d - 1) % 7 = 5 ∨ (w - d - 1) % 7 = 6 := by omega
  refine (e_run [] 3 _ _ rfl).trans ?_
  unfold b__law_coming
  rcases hx with hx | hx | hx | hx | hx | hx | hx <;> rw [hx]
  · have f0 : ((d + 1) % 7 == w) = true := beq_iff_eq.mpr (by omega)
    simp only [startE, List.map, List.length, List.replicate, e_Seq, e_Asg, e_Ret, e_RetF, e_Expr, e_exprK, e_op, e_op2, e_op1, e_un, e_is, e_B, e_bK, e_Cons, e_consK, e_consK2, e_Nil, e_var, e_C, e_bind, e_bindX, e_bindB, e_lookS, e_lookO, M.toD, e_of, e_asgK, e_gSet, e_stK, e_sqN, e_sqR, e_sqB, e_sqC, e_sNil, e_retK, e_retFK, e_add, e_vI, e_neg, e_fInt, e_fIntB, e_sIf, e_sifT, e_sifF, e_T, e_toB, e_Tru, e_truB, e_And, e_Or, e_andT, e_andF, e_orT, e_orF, e_Not, e_notK, e_AndV, e_OrV, e_andVT, e_andVF, e_orVT, e_orVF, e_NotV, e_notVK, e_If, e_ifT, e_ifF, e_Tup, e_Lst, e_LstF, e_tup0, e_lst0, e_lstF0, e_eqI, e_neI, e_ltI, e_leI, e_gtI, e_geI, e_lenL, e_lenT, e_lenR, e_lenS, e_ixL, e_ixT, at0, at1, at2, at3, e_tupL, e_tupT, e_lstT, e_Own, e_ownK, e_Sub, e_For, e_Items, e_itL, e_itT, e_itR, e_Call, e_CallF, e_aNil, e_aVal, e_aVK, e_aVK2, step0, step1, step2, step3, out0, out1, out2, out3, outX1, outX2, outO1, outO2, outO3, e_onSh, e_onOw, decide_true, decide_false, Bool.not_true, Bool.not_false, List.cons_append, List.nil_append, List.getElem?_cons_zero, List.getElem?_cons_succ, List.set_cons_zero, List.set_cons_succ, Nat.reduceLT, Nat.reduceAdd, Nat.reduceSub, Option.map_some, finF, outsE, e_frz, d_rng7, e_forK, e_tnN, e_tnC, e_tnB, e_tnR, e_whT, e_whF, e_Raise, e_Par, e_parK, e_parK2, e_augK, e_Ch, e_chK1, e_chK2, e_chT, e_chF, e_Try, e_tryO, forL_set, e_vIc, m7, f0]
    exact congrArg (fun z => FO.ok (.sh (.int z)) []) (by omega)
  · have f0 : ((d + 1) % 7 == w) = false := beq_false_of_ne (by omega)
    have f1 : ((d + 1 + 1) % 7 == w) = true := beq_iff_eq.mpr (by omega)
    simp only [startE, List.map, List.length, List.replicate, e_Seq, e_Asg, e_Ret, e_RetF, e_Expr, e_exprK, e_op, e_op2, e_op1, e_un, e_is, e_B, e_bK, e_Cons, e_consK, e_consK2, e_Nil, e_var, e_C, e_bind, e_bindX, e_bindB, e_lookS, e_lookO, M.toD, e_of, e_asgK, e_gSet, e_stK, e_sqN, e_sqR, e_sqB, e_sqC, e_sNil, e_retK, e_retFK, e_add, e_vI, e_neg, e_fInt, e_fIntB, e_sIf, e_sifT, e_sifF, e_T, e_toB, e_Tru, e_truB, e_And, e_Or, e_andT, e_andF, e_orT, e_orF, e_Not, e_notK, e_AndV, e_OrV, e_andVT, e_andVF, e_orVT, e_orVF, e_NotV, e_notVK, e_If, e_ifT, e_ifF, e_Tup, e_Lst, e_LstF, e_tup0, e_lst0, e_lstF0, e_eqI, e_neI, e_ltI, e_leI, e_gtI, e_geI, e_lenL, e_lenT, e_lenR, e_lenS, e_ixL, e_ixT, at0, at1, at2, at3, e_tupL, e_tupT, e_lstT, e_Own, e_ownK, e_Sub, e_For, e_Items, e_itL, e_itT, e_itR, e_Call, e_CallF, e_aNil, e_aVal, e_aVK, e_aVK2, step0, step1, step2, step3, out0, out1, out2, out3, outX1, outX2, outO1, outO2, outO3, e_onSh, e_onOw, decide_true, decide_false, Bool.not_true, Bool.not_false, List.cons_append, List.nil_append, List.getElem?_cons_zero, List.getElem?_cons_succ, List.set_cons_zero, List.set_cons_succ, Nat.reduceLT, Nat.reduceAdd, Nat.reduceSub, Option.map_some, finF, outsE, e_frz, d_rng7, e_forK, e_tnN, e_tnC, e_tnB, e_tnR, e_whT, e_whF, e_Raise, e_Par, e_parK, e_parK2, e_augK, e_Ch, e_chK1, e_chK2, e_chT, e_chF, e_Try, e_tryO, forL_set, e_vIc, m7, f0, f1]
    exact congrArg (fun z => FO.ok (.sh (.int z)) []) (by omega)
  · have f0 : ((d + 1) % 7 == w) = false := beq_false_of_ne (by omega)
    have f1 : ((d + 1 + 1) % 7 == w) = false := beq_false_of_ne (by omega)
    have f2 : ((d + 1 + 1 + 1) % 7 == w) = true := beq_iff_eq.mpr (by omega)
    simp only [startE, List.map, List.length, List.replicate, e_Seq, e_Asg, e_Ret, e_RetF, e_Expr, e_exprK, e_op, e_op2, e_op1, e_un, e_is, e_B, e_bK, e_Cons, e_consK, e_consK2, e_Nil, e_var, e_C, e_bind, e_bindX, e_bindB, e_lookS, e_lookO, M.toD, e_of, e_asgK, e_gSet, e_stK, e_sqN, e_sqR, e_sqB, e_sqC, e_sNil, e_retK, e_retFK, e_add, e_vI, e_neg, e_fInt, e_fIntB, e_sIf, e_sifT, e_sifF, e_T, e_toB, e_Tru, e_truB, e_And, e_Or, e_andT, e_andF, e_orT, e_orF, e_Not, e_notK, e_AndV, e_OrV, e_andVT, e_andVF, e_orVT, e_orVF, e_NotV, e_notVK, e_If, e_ifT, e_ifF, e_Tup, e_Lst, e_LstF, e_tup0, e_lst0, e_lstF0, e_eqI, e_neI, e_ltI, e_leI, e_gtI, e_geI, e_lenL, e_lenT, e_lenR, e_lenS, e_ixL, e_ixT, at0, at1, at2, at3, e_tupL, e_tupT, e_lstT, e_Own, e_ownK, e_Sub, e_For, e_Items, e_itL, e_itT, e_itR, e_Call, e_CallF, e_aNil, e_aVal, e_aVK, e_aVK2, step0, step1, step2, step3, out0, out1, out2, out3, outX1, outX2, outO1, outO2, outO3, e_onSh, e_onOw, decide_true, decide_false, Bool.not_true, Bool.not_false, List.cons_append, List.nil_append, List.getElem?_cons_zero, List.getElem?_cons_succ, List.set_cons_zero, List.set_cons_succ, Nat.reduceLT, Nat.reduceAdd, Nat.reduceSub, Option.map_some, finF, outsE, e_frz, d_rng7, e_forK, e_tnN, e_tnC, e_tnB, e_tnR, e_whT, e_whF, e_Raise, e_Par, e_parK, e_parK2, e_augK, e_Ch, e_chK1, e_chK2, e_chT, e_chF, e_Try, e_tryO, forL_set, e_vIc, m7, f0, f1, f2]
    exact congrArg (fun z => FO.ok (.sh (.int z)) []) (by omega)
  · have f0 : ((d + 1) % 7 == w) = false := beq_false_of_ne (by omega)
    have f1 : ((d + 1 + 1) % 7 == w) = false := beq_false_of_ne (by omega)
    have f2 : ((d + 1 + 1 + 1) % 7 == w) = false := beq_false_of_ne (by omega)
    have f3 : ((d + 1 + 1 + 1 + 1) % 7 == w) = true := beq_iff_eq.mpr (by omega)
    simp only [startE, List.map, List.length, List.replicate, e_Seq, e_Asg, e_Ret, e_RetF, e_Expr, e_exprK, e_op, e_op2, e_op1, e_un, e_is, e_B, e_bK, e_Cons, e_consK, e_consK2, e_Nil, e_var, e_C, e_bind, e_bindX, e_bindB, e_lookS, e_lookO, M.toD, e_of, e_asgK, e_gSet, e_stK, e_sqN, e_sqR, e_sqB, e_sqC, e_sNil, e_retK, e_retFK, e_add, e_vI, e_neg, e_fInt, e_fIntB, e_sIf, e_sifT, e_sifF, e_T, e_toB, e_Tru, e_truB, e_And, e_Or, e_andT, e_andF, e_orT, e_orF, e_Not, e_notK, e_AndV, e_OrV, e_andVT, e_andVF, e_orVT, e_orVF, e_NotV, e_notVK, e_If, e_ifT, e_ifF, e_Tup, e_Lst, e_LstF, e_tup0, e_lst0, e_lstF0, e_eqI, e_neI, e_ltI, e_leI, e_gtI, e_geI, e_lenL, e_lenT, e_lenR, e_lenS, e_ixL, e_ixT, at0, at1, at2, at3, e_tupL, e_tupT, e_lstT, e_Own, e_ownK, e_Sub, e_For, e_Items, e_itL, e_itT, e_itR, e_Call, e_CallF, e_aNil, e_aVal, e_aVK, e_aVK2, step0, step1, step2, step3, out0, out1, out2, out3, outX1, outX2, outO1, outO2, outO3, e_onSh, e_onOw, decide_true, decide_false, Bool.not_true, Bool.not_false, List.cons_append, List.nil_append, List.getElem?_cons_zero, List.getElem?_cons_succ, List.set_cons_zero, List.set_cons_succ, Nat.reduceLT, Nat.reduceAdd, Nat.reduceSub, Option.map_some, finF, outsE, e_frz, d_rng7, e_forK, e_tnN, e_tnC, e_tnB, e_tnR, e_whT, e_whF, e_Raise, e_Par, e_parK, e_parK2, e_augK, e_Ch, e_chK1, e_chK2, e_chT, e_chF, e_Try, e_tryO, forL_set, e_vIc, m7, f0, f1, f2, f3]
    exact congrArg (fun z => FO.ok (.sh (.int z)) []) (by omega)
  · have f0 : ((d + 1) % 7 == w) = false := beq_false_of_ne (by omega)
    have f1 : ((d + 1 + 1) % 7 == w) = false := beq_false_of_ne (by omega)
    have f2 : ((d + 1 + 1 + 1) % 7 == w) = false := beq_false_of_ne (by omega)
    have f3 : ((d + 1 + 1 + 1 + 1) % 7 == w) = false := beq_false_of_ne (by omega)
    have f4 : ((d + 1 + 1 + 1 + 1 + 1) % 7 == w) = true := beq_iff_eq.mpr (by omega)
    simp only [startE, List.map, List.length, List.replicate, e_Seq, e_Asg, e_Ret, e_RetF, e_Expr, e_exprK, e_op, e_op2, e_op1, e_un, e_is, e_B, e_bK, e_Cons, e_consK, e_consK2, e_Nil, e_var, e_C, e_bind, e_bindX, e_bindB, e_lookS, e_lookO, M.toD, e_of, e_asgK, e_gSet, e_stK, e_sqN, e_sqR, e_sqB, e_sqC, e_sNil, e_retK, e_retFK, e_add, e_vI, e_neg, e_fInt, e_fIntB, e_sIf, e_sifT, e_sifF, e_T, e_toB, e_Tru, e_truB, e_And, e_Or, e_andT, e_andF, e_orT, e_orF, e_Not, e_notK, e_AndV, e_OrV, e_andVT, e_andVF, e_orVT, e_orVF, e_NotV, e_notVK, e_If, e_ifT, e_ifF, e_Tup, e_Lst, e_LstF, e_tup0, e_lst0, e_lstF0, e_eqI, e_neI, e_ltI, e_leI, e_gtI, e_geI, e_lenL, e_lenT, e_lenR, e_lenS, e_ixL, e_ixT, at0, at1, at2, at3, e_tupL, e_tupT, e_lstT, e_Own, e_ownK, e_Sub, e_For, e_Items, e_itL, e_itT, e_itR, e_Call, e_CallF, e_aNil, e_aVal, e_aVK, e_aVK2, step0, step1, step2, step3, out0, out1, out2, out3, outX1, outX2, outO1, outO2, outO3, e_onSh, e_onOw, decide_true, decide_false, Bool.not_true, Bool.not_false, List.cons_append, List.nil_append, List.getElem?_cons_zero, List.getElem?_cons_succ, List.set_cons_zero, List.set_cons_succ, Nat.reduceLT, Nat.reduceAdd, Nat.reduceSub, Option.map_some, finF, outsE, e_frz, d_rng7, e_forK, e_tnN, e_tnC, e_tnB, e_tnR, e_whT, e_whF, e_Raise, e_Par, e_parK, e_parK2, e_augK, e_Ch, e_chK1, e_chK2, e_chT, e_chF, e_Try, e_tryO, forL_set, e_vIc, m7, f0, f1, f2, f3, f4]
    exact congrArg (fun z => FO.ok (.sh (.int z)) []) (by omega)
  · have f0 : ((d + 1) % 7 == w) = false := beq_false_of_ne (by omega)
    have f1 : ((d + 1 + 1) % 7 == w) = false := beq_false_of_ne (by omega)
    have f2 : ((d + 1 + 1 + 1) % 7 == w) = false := beq_false_of_ne (by omega)
    have f3 : ((d + 1 + 1 + 1 + 1) % 7 == w) = false := beq_false_of_ne (by omega)
    have f4 : ((d + 1 + 1 + 1 + 1 + 1) % 7 == w) = false := beq_false_of_ne (by omega)
    have f5 : ((d + 1 + 1 + 1 + 1 + 1 + 1) % 7 == w) = true := beq_iff_eq.mpr (by omega)
    simp only [startE, List.map, List.length, List.replicate, e_Seq, e_Asg, e_Ret, e_RetF, e_Expr, e_exprK, e_op, e_op2, e_op1, e_un, e_is, e_B, e_bK, e_Cons, e_consK, e_consK2, e_Nil, e_var, e_C, e_bind, e_bindX, e_bindB, e_lookS, e_lookO, M.toD, e_of, e_asgK, e_gSet, e_stK, e_sqN, e_sqR, e_sqB, e_sqC, e_sNil, e_retK, e_retFK, e_add, e_vI, e_neg, e_fInt, e_fIntB, e_sIf, e_sifT, e_sifF, e_T, e_toB, e_Tru, e_truB, e_And, e_Or, e_andT, e_andF, e_orT, e_orF, e_Not, e_notK, e_AndV, e_OrV, e_andVT, e_andVF, e_orVT, e_orVF, e_NotV, e_notVK, e_If, e_ifT, e_ifF, e_Tup, e_Lst, e_LstF, e_tup0, e_lst0, e_lstF0, e_eqI, e_neI, e_ltI, e_leI, e_gtI, e_geI, e_lenL, e_lenT, e_lenR, e_lenS, e_ixL, e_ixT, at0, at1, at2, at3, e_tupL, e_tupT, e_lstT, e_Own, e_ownK, e_Sub, e_For, e_Items, e_itL, e_itT, e_itR, e_Call, e_CallF, e_aNil, e_aVal, e_aVK, e_aVK2, step0, step1, step2, step3, out0, out1, out2, out3, outX1, outX2, outO1, outO2, outO3, e_onSh, e_onOw, decide_true, decide_false, Bool.not_true, Bool.not_false, List.cons_append, List.nil_append, List.getElem?_cons_zero, List.getElem?_cons_succ, List.set_cons_zero, List.set_cons_succ, Nat.reduceLT, Nat.reduceAdd, Nat.reduceSub, Option.map_some, finF, outsE, e_frz, d_rng7, e_forK, e_tnN, e_tnC, e_tnB, e_tnR, e_whT, e_whF, e_Raise, e_Par, e_parK, e_parK2, e_augK, e_Ch, e_chK1, e_chK2, e_chT, e_chF, e_Try, e_tryO, forL_set, e_vIc, m7, f0, f1, f2, f3, f4, f5]
    exact congrArg (fun z => FO.ok (.sh (.int z)) []) (by omega)
  · have f0 : ((d + 1) % 7 == w) = false := beq_false_of_ne (by omega)
    have f1 : ((d + 1 + 1) % 7 == w) = false := beq_false_of_ne (by omega)
    have f2 : ((d + 1 + 1 + 1) % 7 == w) = false := beq_false_of_ne (by omega)
    have f3 : ((d + 1 + 1 + 1 + 1) % 7 == w) = false := beq_false_of_ne (by omega)
    have f4 : ((d + 1 + 1 + 1 + 1 + 1) % 7 == w) = false := beq_false_of_ne (by omega)
    have f5 : ((d + 1 + 1 + 1 + 1 + 1 + 1) % 7 == w) = false := beq_false_of_ne (by omega)
    have f6 : ((d + 1 + 1 + 1 + 1 + 1 + 1 + 1) % 7 == w) = true := beq_iff_eq.mpr (by omega)
    simp only [startE, List.map, List.length, List.replicate, e_Seq, e_Asg, e_Ret, e_RetF, e_Expr, e_exprK, e_op, e_op2, e_op1, e_un, e_is, e_B, e_bK, e_Cons, e_consK, e_consK2, e_Nil, e_var, e_C, e_bind, e_bindX, e_bindB, e_lookS, e_lookO, M.toD, e_of, e_asgK, e_gSet, e_stK, e_sqN, e_sqR, e_sqB, e_sqC, e_sNil, e_retK, e_retFK, e_add, e_vI, e_neg, e_fInt, e_fIntB, e_sIf, e_sifT, e_sifF, e_T, e_toB, e_Tru, e_truB, e_And, e_Or, e_andT, e_andF, e_orT, e_orF, e_Not, e_notK, e_AndV, e_OrV, e_andVT, e_andVF, e_orVT, e_orVF, e_NotV, e_notVK, e_If, e_ifT, e_ifF, e_Tup, e_Lst, e_LstF, e_tup0, e_lst0, e_lstF0, e_eqI, e_neI, e_ltI, e_leI, e_gtI, e_geI, e_lenL, e_lenT, e_lenR, e_lenS, e_ixL, e_ixT, at0, at1, at2, at3, e_tupL, e_tupT, e_lstT, e_Own, e_ownK, e_Sub, e_For, e_Items, e_itL, e_itT, e_itR, e_Call, e_CallF, e_aNil, e_aVal, e_aVK, e_aVK2, step0, step1, step2, step3, out0, out1, out2, out3, outX1, outX2, outO1, outO2, outO3, e_onSh, e_onOw, decide_true, decide_false, Bool.not_true, Bool.not_false, List.cons_append, List.nil_append, List.getElem?_cons_zero, List.getElem?_cons_succ, List.set_cons_zero, List.set_cons_succ, Nat.reduceLT, Nat.reduceAdd, Nat.reduceSub, Option.map_some, finF, outsE, e_frz, d_rng7, e_forK, e_tnN, e_tnC, e_tnB, e_tnR, e_whT, e_whF, e_Raise, e_Par, e_parK, e_parK2, e_augK, e_Ch, e_chK1, e_chK2, e_chT, e_chF, e_Try, e_tryO, forL_set, e_vIc, m7, f0, f1, f2, f3, f4, f5, f6]
    exact congrArg (fun z => FO.ok (.sh (.int z)) []) (by omega)

theorem last_ok (d w : Int) (h0 : 0 ≤ w) (h6 : w ≤ 6) : m__law_last [.sh (.int d), .sh (.int w)] = .ok (.sh (.int (d - ((d - w - 1) % 7 + 1)))) [] := by
  have m7 : ∀ i : Int, cMod i 7 = true := fun i => rfl
  have hx : (d - w - 1) % 7 = 0 ∨ (d - w - 1) % 7 = 1 ∨ (d - w - 1) % 7 = 2 ∨ (d - w - 1) % 7 = 3 ∨ (d - w - 1) % 7 = 4 ∨ (d - w - 1) % 7 = 5 ∨ (d - w - 1) % 7 = 6 := by omega
  refine (e_run [] 3 _ _ rfl).trans ?_
  unfold b__law_last
  rcases hx with hx | hx | hx | hx | hx | hx | hx <;> rw [hx]
  · have f0 : ((d - 1) % 7 == w) = true := beq_iff_eq.mpr (by omega)
    simp only [startE, List.map, List.length, List.replicate, e_Seq, e_Asg, e_Ret, e_RetF, e_Expr, e_exprK, e_op, e_op2, e_op1, e_un, e_is, e_B, e_bK, e_Cons, e_consK, e_consK2, e_Nil, e_var, e_C, e_bind, e_bindX, e_bindB, e_lookS, e_lookO, M.toD, e_of, e_asgK, e_gSet, e_stK, e_sqN, e_sqR, e_sqB, e_sqC, e_sNil, e_retK, e_retFK, e_add, e_vI, e_neg, e_fInt, e_fIntB, e_sIf, e_sifT, e_sifF, e_T, e_toB, e_Tru, e_truB, e_And, e_Or, e_andT, e_andF, e_orT, e_orF, e_Not, e_notK, e_AndV, e_OrV, e_andVT, e_andVF, e_orVT, e_orVF, e_NotV, e_notVK, e_If, e_ifT, e_ifF, e_Tup, e_Lst, e_LstF, e_tup0, e_lst0, e_lstF0, e_eqI, e_neI, e_ltI, e_leI, e_gtI, e_geI, e_lenL, e_lenT, e_lenR, e_lenS, e_ixL, e_ixT, at0, at1, at2, at3, e_tupL, e_tupT, e_lstT, e_Own, e_ownK, e_Sub, e_For, e_Items, e_itL, e_itT, e_itR, e_Call, e_CallF, e_aNil, e_aVal, e_aVK, e_aVK2, step0, step1, step2, step3, out0, out1, out2, out3, outX1, outX2, outO1, outO2, outO3, e_onSh, e_onOw, decide_true, decide_false, Bool.not_true, Bool.not_false, List.cons_append, List.nil_append, List.getElem?_cons_zero, List.getElem?_cons_succ, List.set_cons_zero, List.set_cons_succ, Nat.reduceLT, Nat.reduceAdd, Nat.reduceSub, Option.map_some, finF, outsE, e_frz, d_rng7, e_forK, e_tnN, e_tnC, e_tnB, e_tnR, e_whT, e_whF, e_Raise, e_Par, e_parK, e_parK2, e_augK, e_Ch, e_chK1, e_chK2, e_chT, e_chF, e_Try, e_tryO, forL_set, e_vIc, m7, f0]
    exact congrArg (fun z => FO.ok (.sh (.int z)) []) (by omega)
  · have f0 : ((d - 1) % 7 == w) = false := beq_false_of_ne (by omega)
    have f1 : ((d - 1 - 1) % 7 == w) = true := beq_iff_eq.mpr (by omega)
    simp only [startE, List.map, List.length, List.replicate, e_Seq, e_Asg, e_Ret, e_RetF, e_Expr, e_exprK, e_op, e_op2, e_op1, e_un, e_is, e_B, e_bK, e_Cons, e_consK, e_consK2, e_Nil, e_var, e_C, e_bind, e_bindX, e_bindB, e_lookS, e_lookO, M.toD, e_of, e_asgK, e_gSet, e_stK, e_sqN, e_sqR, e_sqB, e_sqC, e_sNil, e_retK, e_retFK, e_add, e_vI, e_neg, e_fInt, e_fIntB, e_sIf, e_sifT, e_sifF, e_T, e_toB, e_Tru, e_truB, e_And, e_Or, e_andT, e_andF, e_orT, e_orF, e_Not, e_notK, e_AndV, e_OrV, e_andVT, e_andVF, e_orVT, e_orVF, e_NotV, e_notVK, e_If, e_ifT, e_ifF, e_Tup, e_Lst, e_LstF, e_tup0, e_lst0, e_lstF0, e_eqI, e_neI, e_ltI, e_leI, e_gtI, e_geI, e_lenL, e_lenT, e_lenR, e_lenS, e_ixL, e_ixT, at0, at1, at2, at3, e_tupL, e_tupT, e_lstT, e_Own, e_ownK, e_Sub, e_For, e_Items, e_itL, e_itT, e_itR, e_Call, e_CallF, e_aNil, e_aVal, e_aVK, e_aVK2, step0, step1, step2, step3, out0, out1, out2, out3, outX1, outX2, outO1, outO2, outO3, e_onSh, e_onOw, decide_true, decide_false, Bool.not_true, Bool.not_false, List.cons_append, List.nil_append, List.getElem?_cons_zero, List.getElem?_cons_succ, List.set_cons_zero, List.set_cons_succ, Nat.reduceLT, Nat.reduceAdd, Nat.reduceSub, Option.map_some, finF, outsE, e_frz, d_rng7, e_forK, e_tnN, e_tnC, e_tnB, e_tnR, e_whT, e_whF, e_Raise, e_Par, e_parK, e_parK2, e_augK, e_Ch, e_chK1, e_chK2, e_chT, e_chF, e_Try, e_tryO, forL_set, e_vIc, m7, f0, f1]
    exact congrArg (fun z => FO.ok (.sh (.int z)) []) (by omega)
  · have f0 : ((d - 1) % 7 == w) = false := beq_false_of_ne (by omega)
    have f1 : ((d - 1 - 1) % 7 == w) = false := beq_false_of_ne (by omega)
    have f2 : ((d - 1 - 1 - 1) % 7 == w) = true := beq_iff_eq.mpr (by omega)
    simp only [startE, List.map, List.length, List.replicate, e_Seq, e_Asg, e_Ret, e_RetF, e_Expr, e_exprK, e_op, e_op2, e_op1, e_un, e_is, e_B, e_bK, e_Cons, e_consK, e_consK2, e_Nil, e_var, e_C, e_bind, e_bindX, e_bindB, e_lookS, e_lookO, M.toD, e_of, e_asgK, e_gSet, e_stK, e_sqN, e_sqR, e_sqB, e_sqC, e_sNil, e_retK, e_retFK, e_add, e_vI, e_neg, e_fInt, e_fIntB, e_sIf, e_sifT, e_sifF, e_T, e_toB, e_Tru, e_truB, e_And, e_Or, e_andT, e_andF, e_orT, e_orF, e_Not, e_notK, e_AndV, e_OrV, e_andVT, e_andVF, e_orVT, e_orVF, e_NotV, e_notVK, e_If, e_ifT, e_ifF, e_Tup, e_Lst, e_LstF, e_tup0, e_lst0, e_lstF0, e_eqI, e_neI, e_ltI, e_leI, e_gtI, e_geI, e_lenL, e_lenT, e_lenR, e_lenS, e_ixL, e_ixT, at0, at1, at2, at3, e_tupL, e_tupT, e_lstT, e_Own, e_ownK, e_Sub, e_For, e_Items, e_itL, e_itT, e_itR, e_Call, e_CallF, e_aNil, e_aVal, e_aVK, e_aVK2, step0, step1, step2, step3, out0, out1, out2, out3, outX1, outX2, outO1, outO2, outO3, e_onSh, e_onOw, decide_true, decide_false, Bool.not_true, Bool.not_false, List.cons_append, List.nil_append, List.getElem?_cons_zero, List.getElem?_cons_succ, List.set_cons_zero, List.set_cons_succ, Nat.reduceLT, Nat.reduceAdd, Nat.reduceSub, Option.map_some, finF, outsE, e_frz, d_rng7, e_forK, e_tnN, e_tnC, e_tnB, e_tnR, e_whT, e_whF, e_Raise, e_Par, e_parK, e_parK2, e_augK, e_Ch, e_chK1, e_chK2, e_chT, e_chF, e_Try, e_tryO, forL_set, e_vIc, m7, f0, f1, f2]
    exact congrArg (fun z => FO.ok (.sh (.int z)) []) (by omega)
  · have f0 : ((d - 1) % 7 == w) = false := beq_false_of_ne (by omega)
    have f1 : ((d - 1 - 1) % 7 == w) = false := beq_false_of_ne (by omega)
    have f2 : ((d - 1 - 1 - 1) % 7 == w) = false := beq_false_of_ne (by omega)
    have f3 : ((d - 1 - 1 - 1 - 1) % 7 == w) = true := beq_iff_eq.mpr (by omega)
    simp only [startE, List.map, List.length, List.replicate, e_Seq, e_Asg, e_Ret, e_RetF, e_Expr, e_exprK, e_op, e_op2, e_op1, e_un, e_is, e_B, e_bK, e_Cons, e_consK, e_consK2, e_Nil, e_var, e_C, e_bind, e_bindX, e_bindB, e_lookS, e_lookO, M.toD, e_of, e_asgK, e_gSet, e_stK, e_sqN, e_sqR, e_sqB, e_sqC, e_sNil, e_retK, e_retFK, e_add, e_vI, e_neg, e_fInt, e_fIntB, e_sIf, e_sifT, e_sifF, e_T, e_toB, e_Tru, e_truB, e_And, e_Or, e_andT, e_andF, e_orT, e_orF, e_Not, e_notK, e_AndV, e_OrV, e_andVT, e_andVF, e_orVT, e_orVF, e_NotV, e_notVK, e_If, e_ifT, e_ifF, e_Tup, e_Lst, e_LstF, e_tup0, e_lst0, e_lstF0, e_eqI, e_neI, e_ltI, e_leI, e_gtI, e_geI, e_lenL, e_lenT, e_lenR, e_lenS, e_ixL, e_ixT, at0, at1, at2, at3, e_tupL, e_tupT, e_lstT, e_Own, e_ownK, e_Sub, e_For, e_Items, e_itL, e_itT, e_itR, e_Call, e_CallF, e_aNil, e_aVal, e_aVK, e_aVK2, step0, step1, step2, step3, out0, out1, out2, out3, outX1, outX2, outO1, outO2, outO3, e_onSh, e_onOw, decide_true, decide_false, Bool.not_true, Bool.not_false, List.cons_append, List.nil_append, List.getElem?_cons_zero, List.getElem?_cons_succ, List.set_cons_zero, List.set_cons_succ, Nat.reduceLT, Nat.reduceAdd, Nat.reduceSub, Option.map_some, finF, outsE, e_frz, d_rng7, e_forK, e_tnN, e_tnC, e_tnB, e_tnR, e_whT, e_whF, e_Raise, e_Par, e_parK, e_parK2, e_augK, e_Ch, e_chK1, e_chK2, e_chT, e_chF, e_Try, e_tryO, forL_set, e_vIc, m7, f0, f1, f2, f3]
    exact congrArg (fun z => FO.ok (.sh (.int z)) []) (by omega)
  · have f0 : ((d - 1) % 7 == w) = false := beq_false_of_ne (by omega)
    have f1 : ((d - 1 - 1) % 7 == w) = false := beq_false_of_ne (by omega)
    have f2 : ((d - 1 - 1 - 1) % 7 == w) = false := beq_false_of_ne (by omega)
    have f3 : ((d - 1 - 1 - 1 - 1) % 7 == w) = false := beq_false_of_ne (by omega)
    have f4 : ((d - 1 - 1 - 1 - 1 - 1) % 7 == w) = true := beq_iff_eq.mpr (by omega)
    simp only [startE, List.map, List.length, List.replicate, e_Seq, e_Asg, e_Ret, e_RetF, e_Expr, e_exprK, e_op, e_op2, e_op1, e_un, e_is, e_B, e_bK, e_Cons, e_consK, e_consK2, e_Nil, e_var, e_C, e_bind, e_bindX, e_bindB, e_lookS, e_lookO, M.toD, e_of, e_asgK, e_gSet, e_stK, e_sqN, e_sqR, e_sqB, e_sqC, e_sNil, e_retK, e_retFK, e_add, e_vI, e_neg, e_fInt, e_fIntB, e_sIf, e_sifT, e_sifF, e_T, e_toB, e_Tru, e_truB, e_And, e_Or, e_andT, e_andF, e_orT, e_orF, e_Not, e_notK, e_AndV, e_OrV, e_andVT, e_andVF, e_orVT, e_orVF, e_NotV, e_notVK, e_If, e_ifT, e_ifF, e_Tup, e_Lst, e_LstF, e_tup0, e_lst0, e_lstF0, e_eqI, e_neI, e_ltI, e_leI, e_gtI, e_geI, e_lenL, e_lenT, e_lenR, e_lenS, e_ixL, e_ixT, at0, at1, at2, at3, e_tupL, e_tupT, e_lstT, e_Own, e_ownK, e_Sub, e_For, e_Items, e_itL, e_itT, e_itR, e_Call, e_CallF, e_aNil, e_aVal, e_aVK, e_aVK2, step0, step1, step2, step3, out0, out1, out2, out3, outX1, outX2, outO1, outO2, outO3, e_onSh, e_onOw, decide_true, decide_false, Bool.not_true, Bool.not_false, List.cons_append, List.nil_append, List.getElem?_cons_zero, List.getElem?_cons_succ, List.set_cons_zero, List.set_cons_succ, Nat.reduceLT, Nat.reduceAdd, Nat.reduceSub, Option.map_some, finF, outsE, e_frz, d_rng7, e_forK, e_tnN, e_tnC, e_tnB, e_tnR, e_whT, e_whF, e_Raise, e_Par, e_parK, e_parK2, e_augK, e_Ch, e_chK1, e_chK2, e_chT, e_chF, e_Try, e_tryO, forL_set, e_vIc, m7, f0, f1, f2, f3, f4]
    exact congrArg (fun z => FO.ok (.sh (.int z)) []) (by omega)
  · have f0 : ((d - 1) % 7 == w) = false := beq_false_of_ne (by omega)
    have f1 : ((d - 1 - 1) % 7 == w) = false := beq_false_of_ne (by omega)
    have f2 : ((d - 1 - 1 - 1) % 7 == w) = false := beq_false_of_ne (by omega)
    have f3 : ((d - 1 - 1 - 1 - 1) % 7 == w) = false := beq_false_of_ne (by omega)
    have f4 : ((d - 1 - 1 - 1 - 1 - 1) % 7 == w) = false := beq_false_of_ne (by omega)
    have f5 : ((d - 1 - 1 - 1 - 1 - 1 - 1) % 7 == w) = true := beq_iff_eq.mpr (by omega)
    simp only [startE, List.map, List.length, List.replicate, e_Seq, e_Asg, e_Ret, e_RetF, e_Expr, e_exprK, e_op, e_op2, e_op1, e_un, e_is, e_B, e_bK, e_Cons, e_consK, e_consK2, e_Nil, e_var, e_C, e_bind, e_bindX, e_bindB, e_lookS, e_lookO, M.toD, e_of, e_asgK, e_gSet, e_stK, e_sqN, e_sqR, e_sqB, e_sqC, e_sNil, e_retK, e_retFK, e_add, e_vI, e_neg, e_fInt, e_fIntB, e_sIf, e_sifT, e_sifF, e_T, e_toB, e_Tru, e_truB, e_And, e_Or, e_andT, e_andF, e_orT, e_orF, e_Not, e_notK, e_AndV, e_OrV, e_andVT, e_andVF, e_orVT, e_orVF, e_NotV, e_notVK, e_If, e_ifT, e_ifF, e_Tup, e_Lst, e_LstF, e_tup0, e_lst0, e_lstF0, e_eqI, e_neI, e_ltI, e_leI, e_gtI, e_geI, e_lenL, e_lenT, e_lenR, e_lenS, e_ixL, e_ixT, at0, at1, at2, at3, e_tupL, e_tupT, e_lstT, e_Own, e_ownK, e_Sub, e_For, e_Items, e_itL, e_itT, e_itR, e_Call, e_CallF, e_aNil, e_aVal, e_aVK, e_aVK2, step0, step1, step2, step3, out0, out1, out2, out3, outX1, outX2, outO1, outO2, outO3, e_onSh, e_onOw, decide_true, decide_false, Bool.not_true, Bool.not_false, List.cons_append, List.nil_append, List.getElem?_cons_zero, List.getElem?_cons_succ, List.set_cons_zero, List.set_cons_succ, Nat.reduceLT, Nat.reduceAdd, Nat.reduceSub, Option.map_some, finF, outsE, e_frz, d_rng7, e_forK, e_tnN, e_tnC, e_tnB, e_tnR, e_whT, e_whF, e_Raise, e_Par, e_parK, e_parK2, e_augK, e_Ch, e_chK1, e_chK2, e_chT, e_chF, e_Try, e_tryO, forL_set, e_vIc, m7, f0, f1, f2, f3, f4, f5]
    exact congrArg (fun z => FO.ok (.sh (.int z)) []) (by omega)
  · have f0 : ((d - 1) % 7 == w) = false := beq_false_of_ne (by omega)
    have f1 : ((d - 1 - 1) % 7 == w) = false := beq_false_of_ne (by omega)
    have f2 : ((d - 1 - 1 - 1) % 7 == w) = false := beq_false_of_ne (by omega)
    have f3 : ((d - 1 - 1 - 1 - 1) % 7 == w) = false := beq_false_of_ne (by omega)
    have f4 : ((d - 1 - 1 - 1 - 1 - 1) % 7 == w) = false := beq_false_of_ne (by omega)
    have f5 : ((d - 1 - 1 - 1 - 1 - 1 - 1) % 7 == w) = false := beq_false_of_ne (by omega)
    have f6 : ((d - 1 - 1 - 1 - 1 - 1 - 1 - 1) % 7 == w) = true := beq_iff_eq.mpr (by omega)
    simp only [startE, List.map, List.length, List.replicate, e_Seq, e_Asg, e_Ret, e_RetF, e_Expr, e_exprK, e_op, e_op2, e_op1, e_un, e_is, e_B, e_bK, e_Cons, e_consK, e_consK2, e_Nil, e_var, e_C, e_bind, e_bindX, e_bindB, e_lookS, e_lookO, M.toD, e_of, e_asgK, e_gSet, e_stK, e_sqN, e_sqR, e_sqB, e_sqC, e_sNil, e_retK, e_retFK, e_add, e_vI, e_neg, e_fInt, e_fIntB, e_sIf, e_sifT, e_sifF, e_T, e_toB, e_Tru, e_truB, e_And, e_Or, e_andT, e_andF, e_orT, e_orF, e_Not, e_notK, e_AndV, e_OrV, e_andVT, e_andVF, e_orVT, e_orVF, e_NotV, e_notVK, e_If, e_ifT, e_ifF, e_Tup, e_Lst, e_LstF, e_tup0, e_lst0, e_lstF0, e_eqI, e_neI, e_ltI, e_leI, e_gtI, e_geI, e_lenL, e_lenT, e_lenR, e_lenS, e_ixL, e_ixT, at0, at1, at2, at3, e_tupL, e_tupT, e_lstT, e_Own, e_ownK, e_Sub, e_For, e_Items, e_itL, e_itT, e_itR, e_Call, e_CallF, e_aNil, e_aVal, e_aVK, e_aVK2, step0, step1, step2, step3, out0, out1, out2, out3, outX1, outX2, outO1, outO2, outO3, e_onSh, e_onOw, decide_true, decide_false, Bool.not_true, Bool.not_false, List.cons_append, List.nil_append, List.getElem?_cons_zero, List.getElem?_cons_succ, List.set_cons_zero, List.set_cons_succ, Nat.reduceLT, Nat.reduceAdd, Nat.reduceSub, Option.map_some, finF, outsE, e_frz, d_rng7, e_forK, e_tnN, e_tnC, e_tnB, e_tnR, e_whT, e_whF, e_Raise, e_Par, e_parK, e_parK2, e_augK, e_Ch, e_chK1, e_chK2, e_chT, e_chF, e_Try, e_tryO, forL_set, e_vIc, m7, f0, f1, f2, f3, f4, f5, f6]
    exact congrArg (fun z => FO.ok (.sh (.int z)) []) (by omega)

theorem law_saw_ok (w m : Int) (h0 : 0 ≤ w) (h6 : w ≤ 6) : m__law_saw [.sh (.int w), .sh (.int m)] = .ok (.sh (tupI (saws w m))) [] := by
  refine (e_run [] 3 _ _ rfl).trans ?_
  unfold b__law_saw
  have hc := lc_mapI (ρ := [some (.sh (.int w)), some (.sh (.int m)), none]) (i := 2) (ns := [0, 1, 2, 3, 4, 5, 6]) (di := dRng1 (dC (.int 7)))
    (te := dSub (dCall m__law_coming (aVal (dAdd (dVar 2) (dVar 1)) (aVal (dVar 0) (aNil)))) (dVar 2)) (sawAt w m) (d_rng7 _) rfl (fun n _ => by
      simp only [startE, List.map, List.length, List.replicate, e_Seq, e_Asg, e_Ret, e_RetF, e_Expr, e_exprK, e_op, e_op2, e_op1, e_un, e_is, e_B, e_bK, e_Cons, e_consK, e_consK2, e_Nil, e_var, e_C, e_bind, e_bindX, e_bindB, e_lookS, e_lookO, M.toD, e_of, e_asgK, e_gSet, e_stK, e_sqN, e_sqR, e_sqB, e_sqC, e_sNil, e_retK, e_retFK, e_add, e_vI, e_neg, e_fInt, e_fIntB, e_sIf, e_sifT, e_sifF, e_T, e_toB, e_Tru, e_truB, e_And, e_Or, e_andT, e_andF, e_orT, e_orF, e_Not, e_notK, e_AndV, e_OrV, e_andVT, e_andVF, e_orVT, e_orVF, e_NotV, e_notVK, e_If, e_ifT, e_ifF, e_Tup, e_Lst, e_LstF, e_tup0, e_lst0, e_lstF0, e_eqI, e_neI, e_ltI, e_leI, e_gtI, e_geI, e_lenL, e_lenT, e_lenR, e_lenS, e_ixL, e_ixT, at0, at1, at2, at3, e_tupL, e_tupT, e_lstT, e_Own, e_ownK, e_Sub, e_For, e_Items, e_itL, e_itT, e_itR, e_Call, e_CallF, e_aNil, e_aVal, e_aVK, e_aVK2, step0, step1, step2, step3, out0, out1, out2, out3, outX1, outX2, outO1, outO2, outO3, e_onSh, e_onOw, decide_true, decide_false, Bool.not_true, Bool.not_false, List.cons_append, List.nil_append, List.getElem?_cons_zero, List.getElem?_cons_succ, List.set_cons_zero, List.set_cons_succ, Nat.reduceLT, Nat.reduceAdd, Nat.reduceSub, Option.map_some, finF, outsE, e_frz, d_rng7, e_forK, e_tnN, e_tnC, e_tnB, e_tnR, e_whT, e_whF, e_Raise, e_Par, e_parK, e_parK2, e_augK, e_Ch, e_chK1, e_chK2, e_chT, e_chF, e_Try, e_tryO, coming_ok _ _ h0 h6]
      exact congrArg (fun z => R.ok (D.int z) _) (by unfold sawAt; omega)) (by decide)
  simp only [startE, List.map, List.length, List.replicate, e_Seq, e_Asg, e_Ret, e_RetF, e_Expr, e_exprK, e_op, e_op2, e_op1, e_un, e_is, e_B, e_bK, e_Cons, e_consK, e_consK2, e_Nil, e_var, e_C, e_bind, e_bindX, e_bindB, e_lookS, e_lookO, M.toD, e_of, e_asgK, e_gSet, e_stK, e_sqN, e_sqR, e_sqB, e_sqC, e_sNil, e_retK, e_retFK, e_add, e_vI, e_neg, e_fInt, e_fIntB, e_sIf, e_sifT, e_sifF, e_T, e_toB, e_Tru, e_truB, e_And, e_Or, e_andT, e_andF, e_orT, e_orF, e_Not, e_notK, e_AndV, e_OrV, e_andVT, e_andVF, e_orVT, e_orVF, e_NotV, e_notVK, e_If, e_ifT, e_ifF, e_Tup, e_Lst, e_LstF, e_tup0, e_lst0, e_lstF0, e_eqI, e_neI, e_ltI, e_leI, e_gtI, e_geI, e_lenL, e_lenT, e_lenR, e_lenS, e_ixL, e_ixT, at0, at1, at2, at3, e_tupL, e_tupT, e_lstT, e_Own, e_ownK, e_Sub, e_For, e_Items, e_itL, e_itT, e_itR, e_Call, e_CallF, e_aNil, e_aVal, e_aVK, e_aVK2, step0, step1, step2, step3, out0, out1, out2, out3, outX1, outX2, outO1, outO2, outO3, e_onSh, e_onOw, decide_true, decide_false, Bool.not_true, Bool.not_false, List.cons_append, List.nil_append, List.getElem?_cons_zero, List.getElem?_cons_succ, List.set_cons_zero, List.set_cons_succ, Nat.reduceLT, Nat.reduceAdd, Nat.reduceSub, Option.map_some, finF, outsE, e_frz, d_rng7, e_forK, e_tnN, e_tnC, e_tnB, e_tnR, e_whT, e_whF, e_Raise, e_Par, e_parK, e_parK2, e_augK, e_Ch, e_chK1, e_chK2, e_chT, e_chF, e_Try, e_tryO, hc, tupI, saws]
end L21
set_option Elab.async false
set_option linter.all false
set_option maxRecDepth 100000
namespace L21
open PySem L2 Rf Sv
theorem ev_min (k : Int) : fMin [tupI (evens k)] = some (.int k) := (t_min k _).trans (congrArg (fun z => some (D.int z)) (minI_eq List.mem_cons_self fun y hy => by
  simp only [List.mem_cons, List.not_mem_nil, or_false] at hy; omega))
theorem ev_max (k : Int) : fMax [tupI (evens k)] = some (.int k) := (t_max k _).trans (congrArg (fun z => some (D.int z)) (maxI_eq List.mem_cons_self fun y hy => by
  simp only [List.mem_cons, List.not_mem_nil, or_false] at hy; omega))
theorem sw_min (w m : Int) : fMin [tupI (saws w m)] = some (.int (m + 1)) := (t_min _ _).trans (congrArg (fun z => some (D.int z)) (saws_min w m))
theorem sw_max (w m : Int) : fMax [tupI (saws w m)] = some (.int (m + 7)) := (t_max _ _).trans (congrArg (fun z => some (D.int z)) (saws_max w m))
theorem ev_len (k : Int) : (evens k).length = 7 := rfl
theorem sw_len (w m : Int) : (saws w m).length = 7 := rfl
theorem ix_ev0 (k : Int) : vIxI (tupI (evens k)) (.int 0) = some (.int k) := t_ix (Sh.atI (.ev k) (by decide))
theorem ix_sw0 (w m : Int) : vIxI (tupI (saws w m)) (.int 0) = some (.int (sawAt w m 0)) := t_ix (Sh.atI (.sw w m) (by decide))
theorem sw_m0 (w m : Int) (h0 : 0 ≤ w) (h6 : w ≤ 6) : sawAt w m 0 % 7 = w := by have := sawAt_mod w m 0 h0 h6; rwa [Int.zero_add] at this
theorem m7 (i : Int) : cMod i 7 = true := cMod_p (by decide)
theorem n77 : (((7 : Nat) : Int) == 7) = true := by decide
theorem bsub (m : Int) : m + 1 - 1 = m := by omega
theorem ne17 (m : Int) : (m + 1 == m + 7) = false := beq_false_of_ne (by omega)
theorem wholes (l : List Int) (x : DV) : fLc (dItems (dVar 0)) (gSet 3) dYes (dCall m_is_whole (aVal (dVar 3) (aNil))) [3] [some (.sh (tupI l)), none, none, none] = if l.length ≤ sizeLine then .ok (.lst (l.map fun _ => D.bl true)) [some (.sh (tupI l)), none, none, none] else fLc (dItems (dVar 0)) (gSet 3) dYes (dCall m_is_whole (aVal (dVar 3) (aNil))) [3] [some (.sh (tupI l)), none, none, none] := by
  split
  · rename_i hz
    refine (lc_map (ds := l.map D.int) (fun _ => D.bl true) rfl rfl (fun d hd => ?_) (by rw [List.length_map]; exact hz)).trans ?_
    · obtain ⟨n, _, rfl⟩ := List.mem_map.mp hd
      simp only [startE, List.map, List.length, List.replicate, e_Seq, e_Asg, e_Ret, e_RetF, e_Expr, e_exprK, e_op, e_op2, e_op1, e_un, e_is, e_B, e_bK, e_Cons, e_consK, e_consK2, e_Nil, e_var, e_C, e_bind, e_bindX, e_bindB, e_lookS, e_lookO, M.toD, e_of, e_asgK, e_gSet, e_stK, e_sqN, e_sqR, e_sqB, e_sqC, e_sNil, e_retK, e_retFK, e_add, e_vI, e_neg, e_fInt, e_fIntB, e_sIf, e_sifT, e_sifF, e_T, e_toB, e_Tru, e_truB, e_And, e_Or, e_andT, e_andF, e_orT, e_orF, e_Not, e_notK, e_AndV, e_OrV, e_andVT, e_andVF, e_orVT, e_orVF, e_NotV, e_notVK, e_If, e_ifT, e_ifF, e_Tup, e_Lst, e_LstF, e_tup0, e_lst0, e_lstF0, e_eqI, e_neI, e_ltI, e_leI, e_gtI, e_geI, e_lenL, e_lenT, e_lenR, e_lenS, e_ixL, e_ixT, at0, at1, at2, at3, e_tupL, e_tupT, e_lstT, e_Own, e_ownK, e_Sub, e_For, e_Items, e_itL, e_itT, e_itR, e_Call, e_CallF, e_aNil, e_aVal, e_aVK, e_aVK2, step0, step1, step2, step3, out0, out1, out2, out3, outX1, outX2, outO1, outO2, outO3, e_onSh, e_onOw, decide_true, decide_false, Bool.not_true, Bool.not_false, List.cons_append, List.nil_append, List.getElem?_cons_zero, List.getElem?_cons_succ, List.set_cons_zero, List.set_cons_succ, Nat.reduceLT, Nat.reduceAdd, Nat.reduceSub, Option.map_some, finF, outsE, e_frz, d_rng7, e_forK, e_tnN, e_tnC, e_tnB, e_tnR, e_whT, e_whF, e_Raise, e_Par, e_parK, e_parK2, e_augK, e_Ch, e_chK1, e_chK2, e_chT, e_chF, e_Try, e_tryO, e_tru, e_While, e_abs, e_max2, e_min2, e_gSq2, e_tup1, e_lst1, e_tup2, e_lst2, e_tup3, e_lst3, e_tup4, e_lst4, e_tup5, e_lst5, e_tup6, e_lst6, e_tup7, e_lst7, e_tup8, e_lst8, is_whole_ok]
    · rw [List.map_map]; rfl
  · rfl
theorem seven_line : (7 : Nat) ≤ sizeLine := by rw [sizeLine_eq]; decide
theorem shape2_ok {s : Sh} {B : Int} (h : s.fit B) : m_shape_of_sevens [.sh (tupI s.lst)] = .ok (.sh s.d) [] := by
  have hc := wholes s.lst (.sh .non)
  rw [if_pos (by rw [s.len]; exact seven_line)] at hc
  refine (e_run [] 4 _ _ rfl).trans ?_
  unfold b_shape_of_sevens
  cases s with
  | ev k =>
    simp only [Sh.lst] at hc
    simp only [startE, List.map, List.length, List.replicate, e_Seq, e_Asg, e_Ret, e_RetF, e_Expr, e_exprK, e_op, e_op2, e_op1, e_un, e_is, e_B, e_bK, e_Cons, e_consK, e_consK2, e_Nil, e_var, e_C, e_bind, e_bindX, e_bindB, e_lookS, e_lookO, M.toD, e_of, e_asgK, e_gSet, e_stK, e_sqN, e_sqR, e_sqB, e_sqC, e_sNil, e_retK, e_retFK, e_add, e_vI, e_neg, e_fInt, e_fIntB, e_sIf, e_sifT, e_sifF, e_T, e_toB, e_Tru, e_truB, e_And, e_Or, e_andT, e_andF, e_orT, e_orF, e_Not, e_notK, e_AndV, e_OrV, e_andVT, e_andVF, e_orVT, e_orVF, e_NotV, e_notVK, e_If, e_ifT, e_ifF, e_Tup, e_Lst, e_LstF, e_tup0, e_lst0, e_lstF0, e_eqI, e_neI, e_ltI, e_leI, e_gtI, e_geI, e_lenL, e_lenT, e_lenR, e_lenS, e_ixL, e_ixT, at0, at1, at2, at3, e_tupL, e_tupT, e_lstT, e_Own, e_ownK, e_Sub, e_For, e_Items, e_itL, e_itT, e_itR, e_Call, e_CallF, e_aNil, e_aVal, e_aVK, e_aVK2, step0, step1, step2, step3, out0, out1, out2, out3, outX1, outX2, outO1, outO2, outO3, e_onSh, e_onOw, decide_true, decide_false, Bool.not_true, Bool.not_false, List.cons_append, List.nil_append, List.getElem?_cons_zero, List.getElem?_cons_succ, List.set_cons_zero, List.set_cons_succ, Nat.reduceLT, Nat.reduceAdd, Nat.reduceSub, Option.map_some, finF, outsE, e_frz, d_rng7, e_forK, e_tnN, e_tnC, e_tnB, e_tnR, e_whT, e_whF, e_Raise, e_Par, e_parK, e_parK2, e_augK, e_Ch, e_chK1, e_chK2, e_chT, e_chF, e_Try, e_tryO, e_tru, e_While, e_abs, e_max2, e_min2, e_gSq2, e_tup1, e_lst1, e_tup2, e_lst2, e_tup3, e_lst3, e_tup4, e_lst4, e_tup5, e_lst5, e_tup6, e_lst6, e_tup7, e_lst7, e_tup8, e_lst8, t_fld, t_eq, t_ne, t_len, t_is, t_itm, t_of, t_of2, t_lst, Sh.lst, Sh.d, hc, t_all, ev_min, ev_max, ev_len, n77, beq_self_eq_true, evenD]
  | sw w m =>
    obtain ⟨h0, h6, _, _⟩ := h
    simp only [Sh.lst] at hc
    simp only [startE, List.map, List.length, List.replicate, e_Seq, e_Asg, e_Ret, e_RetF, e_Expr, e_exprK, e_op, e_op2, e_op1, e_un, e_is, e_B, e_bK, e_Cons, e_consK, e_consK2, e_Nil, e_var, e_C, e_bind, e_bindX, e_bindB, e_lookS, e_lookO, M.toD, e_of, e_asgK, e_gSet, e_stK, e_sqN, e_sqR, e_sqB, e_sqC, e_sNil, e_retK, e_retFK, e_add, e_vI, e_neg, e_fInt, e_fIntB, e_sIf, e_sifT, e_sifF, e_T, e_toB, e_Tru, e_truB, e_And, e_Or, e_andT, e_andF, e_orT, e_orF, e_Not, e_notK, e_AndV, e_OrV, e_andVT, e_andVF, e_orVT, e_orVF, e_NotV, e_notVK, e_If, e_ifT, e_ifF, e_Tup, e_Lst, e_LstF, e_tup0, e_lst0, e_lstF0, e_eqI, e_neI, e_ltI, e_leI, e_gtI, e_geI, e_lenL, e_lenT, e_lenR, e_lenS, e_ixL, e_ixT, at0, at1, at2, at3, e_tupL, e_tupT, e_lstT, e_Own, e_ownK, e_Sub, e_For, e_Items, e_itL, e_itT, e_itR, e_Call, e_CallF, e_aNil, e_aVal, e_aVK, e_aVK2, step0, step1, step2, step3, out0, out1, out2, out3, outX1, outX2, outO1, outO2, outO3, e_onSh, e_onOw, decide_true, decide_false, Bool.not_true, Bool.not_false, List.cons_append, List.nil_append, List.getElem?_cons_zero, List.getElem?_cons_succ, List.set_cons_zero, List.set_cons_succ, Nat.reduceLT, Nat.reduceAdd, Nat.reduceSub, Option.map_some, finF, outsE, e_frz, d_rng7, e_forK, e_tnN, e_tnC, e_tnB, e_tnR, e_whT, e_whF, e_Raise, e_Par, e_parK, e_parK2, e_augK, e_Ch, e_chK1, e_chK2, e_chT, e_chF, e_Try, e_tryO, e_tru, e_While, e_abs, e_max2, e_min2, e_gSq2, e_tup1, e_lst1, e_tup2, e_lst2, e_tup3, e_lst3, e_tup4, e_lst4, e_tup5, e_lst5, e_tup6, e_lst6, e_tup7, e_lst7, e_tup8, e_lst8, t_fld, t_eq, t_ne, t_len, t_is, t_itm, t_of, t_of2, t_lst, Sh.lst, Sh.d, hc, t_all, sw_min, sw_max, sw_len, n77, ne17, bsub, e_vIc, m7, ix_sw0, sw_m0 w m h0 h6, saw_sevens_ok, sawD]
theorem whole_loop (p : DV) (c : Option DV) : ∀ (l : List Int) (x : Option DV), ∃ y, forL (gSet 1) (sIf (dNot (dTru (dCall m__law_whole (aVal (dVar 1) (aNil))))) (sRet (dC .non)) (sNil)) (l.map D.int) [some p, x, c, c] = .ok .nx [some p, y, c, c]
  | [], x => ⟨x, rfl⟩
  | n :: l, x => by
    obtain ⟨y, hy⟩ := whole_loop p c l (some (.sh (.int n)))
    refine ⟨y, ?_⟩
    rw [← hy]
    simp only [startE, List.map, List.length, List.replicate, e_Seq, e_Asg, e_Ret, e_RetF, e_Expr, e_exprK, e_op, e_op2, e_op1, e_un, e_is, e_B, e_bK, e_Cons, e_consK, e_consK2, e_Nil, e_var, e_C, e_bind, e_bindX, e_bindB, e_lookS, e_lookO, M.toD, e_of, e_asgK, e_gSet, e_stK, e_sqN, e_sqR, e_sqB, e_sqC, e_sNil, e_retK, e_retFK, e_add, e_vI, e_neg, e_fInt, e_fIntB, e_sIf, e_sifT, e_sifF, e_T, e_toB, e_Tru, e_truB, e_And, e_Or, e_andT, e_andF, e_orT, e_orF, e_Not, e_notK, e_AndV, e_OrV, e_andVT, e_andVF, e_orVT, e_orVF, e_NotV, e_notVK, e_If, e_ifT, e_ifF, e_Tup, e_Lst, e_LstF, e_tup0, e_lst0, e_lstF0, e_eqI, e_neI, e_ltI, e_leI, e_gtI, e_geI, e_lenL, e_lenT, e_lenR, e_lenS, e_ixL, e_ixT, at0, at1, at2, at3, e_tupL, e_tupT, e_lstT, e_Own, e_ownK, e_Sub, e_For, e_Items, e_itL, e_itT, e_itR, e_Call, e_CallF, e_aNil, e_aVal, e_aVK, e_aVK2, step0, step1, step2, step3, out0, out1, out2, out3, outX1, outX2, outO1, outO2, outO3, e_onSh, e_onOw, decide_true, decide_false, Bool.not_true, Bool.not_false, List.cons_append, List.nil_append, List.getElem?_cons_zero, List.getElem?_cons_succ, List.set_cons_zero, List.set_cons_succ, Nat.reduceLT, Nat.reduceAdd, Nat.reduceSub, Option.map_some, finF, outsE, e_frz, d_rng7, e_forK, e_tnN, e_tnC, e_tnB, e_tnR, e_whT, e_whF, e_Raise, e_Par, e_parK, e_parK2, e_augK, e_Ch, e_chK1, e_chK2, e_chT, e_chF, e_Try, e_tryO, e_tru, e_While, e_abs, e_max2, e_min2, e_gSq2, e_tup1, e_lst1, e_tup2, e_lst2, e_tup3, e_lst3, e_tup4, e_lst4, e_tup5, e_lst5, e_tup6, e_lst6, e_tup7, e_lst7, e_tup8, e_lst8, forL_set, whole_ok]
theorem shape_ok {s : Sh} {B : Int} (h : s.fit B) : m__law_shape [.sh (tupI s.lst)] = .ok (.sh s.d) [] := by
  refine (e_run [] 4 _ _ rfl).trans ?_
  unfold b__law_shape
  obtain ⟨y, hy⟩ := whole_loop (.sh (tupI s.lst)) none s.lst none
  cases s with
  | ev k =>
    simp only [Sh.lst] at hy
    simp only [startE, List.map, List.length, List.replicate, e_Seq, e_Asg, e_Ret, e_RetF, e_Expr, e_exprK, e_op, e_op2, e_op1, e_un, e_is, e_B, e_bK, e_Cons, e_consK, e_consK2, e_Nil, e_var, e_C, e_bind, e_bindX, e_bindB, e_lookS, e_lookO, M.toD, e_of, e_asgK, e_gSet, e_stK, e_sqN, e_sqR, e_sqB, e_sqC, e_sNil, e_retK, e_retFK, e_add, e_vI, e_neg, e_fInt, e_fIntB, e_sIf, e_sifT, e_sifF, e_T, e_toB, e_Tru, e_truB, e_And, e_Or, e_andT, e_andF, e_orT, e_orF, e_Not, e_notK, e_AndV, e_OrV, e_andVT, e_andVF, e_orVT, e_orVF, e_NotV, e_notVK, e_If, e_ifT, e_ifF, e_Tup, e_Lst, e_LstF, e_tup0, e_lst0, e_lstF0, e_eqI, e_neI, e_ltI, e_leI, e_gtI, e_geI, e_lenL, e_lenT, e_lenR, e_lenS, e_ixL, e_ixT, at0, at1, at2, at3, e_tupL, e_tupT, e_lstT, e_Own, e_ownK, e_Sub, e_For, e_Items, e_itL, e_itT, e_itR, e_Call, e_CallF, e_aNil, e_aVal, e_aVK, e_aVK2, step0, step1, step2, step3, out0, out1, out2, out3, outX1, outX2, outO1, outO2, outO3, e_onSh, e_onOw, decide_true, decide_false, Bool.not_true, Bool.not_false, List.cons_append, List.nil_append, List.getElem?_cons_zero, List.getElem?_cons_succ, List.set_cons_zero, List.set_cons_succ, Nat.reduceLT, Nat.reduceAdd, Nat.reduceSub, Option.map_some, finF, outsE, e_frz, d_rng7, e_forK, e_tnN, e_tnC, e_tnB, e_tnR, e_whT, e_whF, e_Raise, e_Par, e_parK, e_parK2, e_augK, e_Ch, e_chK1, e_chK2, e_chT, e_chF, e_Try, e_tryO, e_tru, e_While, e_abs, e_max2, e_min2, e_gSq2, e_tup1, e_lst1, e_tup2, e_lst2, e_tup3, e_lst3, e_tup4, e_lst4, e_tup5, e_lst5, e_tup6, e_lst6, e_tup7, e_lst7, e_tup8, e_lst8, t_fld, t_eq, t_ne, t_len, t_is, t_itm, t_of, t_of2, t_lst, Sh.lst, Sh.d, hy, ev_len, n77, ix_ev0, even_ok, evenD]
  | sw w m =>
    obtain ⟨h0, h6, _, _⟩ := h
    simp only [Sh.lst] at hy
    have hn : decide (saws w m = evens (sawAt w m 0)) = false := decide_eq_false (saws_ne w m _)
    simp only [startE, List.map, List.length, List.replicate, e_Seq, e_Asg, e_Ret, e_RetF, e_Expr, e_exprK, e_op, e_op2, e_op1, e_un, e_is, e_B, e_bK, e_Cons, e_consK, e_consK2, e_Nil, e_var, e_C, e_bind, e_bindX, e_bindB, e_lookS, e_lookO, M.toD, e_of, e_asgK, e_gSet, e_stK, e_sqN, e_sqR, e_sqB, e_sqC, e_sNil, e_retK, e_retFK, e_add, e_vI, e_neg, e_fInt, e_fIntB, e_sIf, e_sifT, e_sifF, e_T, e_toB, e_Tru, e_truB, e_And, e_Or, e_andT, e_andF, e_orT, e_orF, e_Not, e_notK, e_AndV, e_OrV, e_andVT, e_andVF, e_orVT, e_orVF, e_NotV, e_notVK, e_If, e_ifT, e_ifF, e_Tup, e_Lst, e_LstF, e_tup0, e_lst0, e_lstF0, e_eqI, e_neI, e_ltI, e_leI, e_gtI, e_geI, e_lenL, e_lenT, e_lenR, e_lenS, e_ixL, e_ixT, at0, at1, at2, at3, e_tupL, e_tupT, e_lstT, e_Own, e_ownK, e_Sub, e_For, e_Items, e_itL, e_itT, e_itR, e_Call, e_CallF, e_aNil, e_aVal, e_aVK, e_aVK2, step0, step1, step2, step3, out0, out1, out2, out3, outX1, outX2, outO1, outO2, outO3, e_onSh, e_onOw, decide_true, decide_false, Bool.not_true, Bool.not_false, List.cons_append, List.nil_append, List.getElem?_cons_zero, List.getElem?_cons_succ, List.set_cons_zero, List.set_cons_succ, Nat.reduceLT, Nat.reduceAdd, Nat.reduceSub, Option.map_some, finF, outsE, e_frz, d_rng7, e_forK, e_tnN, e_tnC, e_tnB, e_tnR, e_whT, e_whF, e_Raise, e_Par, e_parK, e_parK2, e_augK, e_Ch, e_chK1, e_chK2, e_chT, e_chF, e_Try, e_tryO, e_tru, e_While, e_abs, e_max2, e_min2, e_gSq2, e_tup1, e_lst1, e_tup2, e_lst2, e_tup3, e_lst3, e_tup4, e_lst4, e_tup5, e_lst5, e_tup6, e_lst6, e_tup7, e_lst7, e_tup8, e_lst8, t_fld, t_eq, t_ne, t_len, t_is, t_itm, t_of, t_of2, t_lst, Sh.lst, Sh.d, hy, sw_len, n77, ix_sw0, even_ok, hn, e_vIc, m7, sw_m0 w m h0 h6, sw_min, bsub, law_saw_ok w m h0 h6, sawD]
/-! ### bad sevens -/
inductive Bad : D → Prop
  | lst (a b c d e f g : Int) : Bad (.lst [.int a, .int b, .int c, .int d, .int e, .int f, .int g])
  | six (a b c d e f : Int) : Bad (.tup [.int a, .int b, .int c, .int d, .int e, .int f])
  | eight (a b c d e f g h : Int) : Bad (.tup [.int a, .int b, .int c, .int d, .int e, .int f, .int g, .int h])
  | tru (a b c d e f : Int) (g : Bool) : Bad (.tup [.int a, .int b, .int c, .int d, .int e, .int f, .bl g])
  | non : Bad .non
theorem bad_shape {x : D} (h : Bad x) : m_shape_of_sevens [.sh x] = .exc ⟨1, []⟩ [] := by
  cases h <;> kernel_rfl
theorem alike_bad1 {x y : D} (h : Bad x) : m_rests_alike [.sh x, .sh y] = .exc ⟨1, []⟩ [] := by
  refine (e_run [] 3 _ _ rfl).trans ?_
  unfold b_rests_alike
  simp only [startE, List.map, List.length, List.replicate, e_Seq, e_Asg, e_Ret, e_RetF, e_Expr, e_exprK, e_op, e_op2, e_op1, e_un, e_is, e_B, e_bK, e_Cons, e_consK, e_consK2, e_Nil, e_var, e_C, e_bind, e_bindX, e_bindB, e_lookS, e_lookO, M.toD, e_of, e_asgK, e_gSet, e_stK, e_sqN, e_sqR, e_sqB, e_sqC, e_sNil, e_retK, e_retFK, e_add, e_vI, e_neg, e_fInt, e_fIntB, e_sIf, e_sifT, e_sifF, e_T, e_toB, e_Tru, e_truB, e_And, e_Or, e_andT, e_andF, e_orT, e_orF, e_Not, e_notK, e_AndV, e_OrV, e_andVT, e_andVF, e_orVT, e_orVF, e_NotV, e_notVK, e_If, e_ifT, e_ifF, e_Tup, e_Lst, e_LstF, e_tup0, e_lst0, e_lstF0, e_eqI, e_neI, e_ltI, e_leI, e_gtI, e_geI, e_lenL, e_lenT, e_lenR, e_lenS, e_ixL, e_ixT, at0, at1, at2, at3, e_tupL, e_tupT, e_lstT, e_Own, e_ownK, e_Sub, e_For, e_Items, e_itL, e_itT, e_itR, e_Call, e_CallF, e_aNil, e_aVal, e_aVK, e_aVK2, step0, step1, step2, step3, out0, out1, out2, out3, outX1, outX2, outO1, outO2, outO3, e_onSh, e_onOw, decide_true, decide_false, Bool.not_true, Bool.not_false, List.cons_append, List.nil_append, List.getElem?_cons_zero, List.getElem?_cons_succ, List.set_cons_zero, List.set_cons_succ, Nat.reduceLT, Nat.reduceAdd, Nat.reduceSub, Option.map_some, finF, outsE, e_frz, d_rng7, e_forK, e_tnN, e_tnC, e_tnB, e_tnR, e_whT, e_whF, e_Raise, e_Par, e_parK, e_parK2, e_augK, e_Ch, e_chK1, e_chK2, e_chT, e_chF, e_Try, e_tryO, e_tru, e_While, e_abs, e_max2, e_min2, e_gSq2, e_tup1, e_lst1, e_tup2, e_lst2, e_tup3, e_lst3, e_tup4, e_lst4, e_tup5, e_lst5, e_tup6, e_lst6, e_tup7, e_lst7, e_tup8, e_lst8, bad_shape h]
theorem alike_bad2 {s : Sh} {B : Int} {y : D} (hs : s.fit B) (h : Bad y) : m_rests_alike [.sh (tupI s.lst), .sh y] = .exc ⟨1, []⟩ [] := by
  refine (e_run [] 3 _ _ rfl).trans ?_
  unfold b_rests_alike
  simp only [startE, List.map, List.length, List.replicate, e_Seq, e_Asg, e_Ret, e_RetF, e_Expr, e_exprK, e_op, e_op2, e_op1, e_un, e_is, e_B, e_bK, e_Cons, e_consK, e_consK2, e_Nil, e_var, e_C, e_bind, e_bindX, e_bindB, e_lookS, e_lookO, M.toD, e_of, e_asgK, e_gSet, e_stK, e_sqN, e_sqR, e_sqB, e_sqC, e_sNil, e_retK, e_retFK, e_add, e_vI, e_neg, e_fInt, e_fIntB, e_sIf, e_sifT, e_sifF, e_T, e_toB, e_Tru, e_truB, e_And, e_Or, e_andT, e_andF, e_orT, e_orF, e_Not, e_notK, e_AndV, e_OrV, e_andVT, e_andVF, e_orVT, e_orVF, e_NotV, e_notVK, e_If, e_ifT, e_ifF, e_Tup, e_Lst, e_LstF, e_tup0, e_lst0, e_lstF0, e_eqI, e_neI, e_ltI, e_leI, e_gtI, e_geI, e_lenL, e_lenT, e_lenR, e_lenS, e_ixL, e_ixT, at0, at1, at2, at3, e_tupL, e_tupT, e_lstT, e_Own, e_ownK, e_Sub, e_For, e_Items, e_itL, e_itT, e_itR, e_Call, e_CallF, e_aNil, e_aVal, e_aVK, e_aVK2, step0, step1, step2, step3, out0, out1, out2, out3, outX1, outX2, outO1, outO2, outO3, e_onSh, e_onOw, decide_true, decide_false, Bool.not_true, Bool.not_false, List.cons_append, List.nil_append, List.getElem?_cons_zero, List.getElem?_cons_succ, List.set_cons_zero, List.set_cons_succ, Nat.reduceLT, Nat.reduceAdd, Nat.reduceSub, Option.map_some, finF, outsE, e_frz, d_rng7, e_forK, e_tnN, e_tnC, e_tnB, e_tnR, e_whT, e_whF, e_Raise, e_Par, e_parK, e_parK2, e_augK, e_Ch, e_chK1, e_chK2, e_chT, e_chF, e_Try, e_tryO, e_tru, e_While, e_abs, e_max2, e_min2, e_gSq2, e_tup1, e_lst1, e_tup2, e_lst2, e_tup3, e_lst3, e_tup4, e_lst4, e_tup5, e_lst5, e_tup6, e_lst6, e_tup7, e_lst7, e_tup8, e_lst8, shape2_ok hs, bad_shape h]
theorem refused1 {x y : D} (h : Bad x) : m__law_refused [.sh x, .sh y] = .ok (.sh (.bl true)) [] := by
  refine (e_run [] 2 _ _ rfl).trans ?_
  unfold b__law_refused
  simp only [startE, List.map, List.length, List.replicate, e_Seq, e_Asg, e_Ret, e_RetF, e_Expr, e_exprK, e_op, e_op2, e_op1, e_un, e_is, e_B, e_bK, e_Cons, e_consK, e_consK2, e_Nil, e_var, e_C, e_bind, e_bindX, e_bindB, e_lookS, e_lookO, M.toD, e_of, e_asgK, e_gSet, e_stK, e_sqN, e_sqR, e_sqB, e_sqC, e_sNil, e_retK, e_retFK, e_add, e_vI, e_neg, e_fInt, e_fIntB, e_sIf, e_sifT, e_sifF, e_T, e_toB, e_Tru, e_truB, e_And, e_Or, e_andT, e_andF, e_orT, e_orF, e_Not, e_notK, e_AndV, e_OrV, e_andVT, e_andVF, e_orVT, e_orVF, e_NotV, e_notVK, e_If, e_ifT, e_ifF, e_Tup, e_Lst, e_LstF, e_tup0, e_lst0, e_lstF0, e_eqI, e_neI, e_ltI, e_leI, e_gtI, e_geI, e_lenL, e_lenT, e_lenR, e_lenS, e_ixL, e_ixT, at0, at1, at2, at3, e_tupL, e_tupT, e_lstT, e_Own, e_ownK, e_Sub, e_For, e_Items, e_itL, e_itT, e_itR, e_Call, e_CallF, e_aNil, e_aVal, e_aVK, e_aVK2, step0, step1, step2, step3, out0, out1, out2, out3, outX1, outX2, outO1, outO2, outO3, e_onSh, e_onOw, decide_true, decide_false, Bool.not_true, Bool.not_false, List.cons_append, List.nil_append, List.getElem?_cons_zero, List.getElem?_cons_succ, List.set_cons_zero, List.set_cons_succ, Nat.reduceLT, Nat.reduceAdd, Nat.reduceSub, Option.map_some, finF, outsE, e_frz, d_rng7, e_forK, e_tnN, e_tnC, e_tnB, e_tnR, e_whT, e_whF, e_Raise, e_Par, e_parK, e_parK2, e_augK, e_Ch, e_chK1, e_chK2, e_chT, e_chF, e_Try, e_tryO, e_tru, e_While, e_abs, e_max2, e_min2, e_gSq2, e_tup1, e_lst1, e_tup2, e_lst2, e_tup3, e_lst3, e_tup4, e_lst4, e_tup5, e_lst5, e_tup6, e_lst6, e_tup7, e_lst7, e_tup8, e_lst8, alike_bad1 h]
  rfl
theorem refused2 {s : Sh} {B : Int} {y : D} (hs : s.fit B) (h : Bad y) : m__law_refused [.sh (tupI s.lst), .sh y] = .ok (.sh (.bl true)) [] := by
  refine (e_run [] 2 _ _ rfl).trans ?_
  unfold b__law_refused
  simp only [startE, List.map, List.length, List.replicate, e_Seq, e_Asg, e_Ret, e_RetF, e_Expr, e_exprK, e_op, e_op2, e_op1, e_un, e_is, e_B, e_bK, e_Cons, e_consK, e_consK2, e_Nil, e_var, e_C, e_bind, e_bindX, e_bindB, e_lookS, e_lookO, M.toD, e_of, e_asgK, e_gSet, e_stK, e_sqN, e_sqR, e_sqB, e_sqC, e_sNil, e_retK, e_retFK, e_add, e_vI, e_neg, e_fInt, e_fIntB, e_sIf, e_sifT, e_sifF, e_T, e_toB, e_Tru, e_truB, e_And, e_Or, e_andT, e_andF, e_orT, e_orF, e_Not, e_notK, e_AndV, e_OrV, e_andVT, e_andVF, e_orVT, e_orVF, e_NotV, e_notVK, e_If, e_ifT, e_ifF, e_Tup, e_Lst, e_LstF, e_tup0, e_lst0, e_lstF0, e_eqI, e_neI, e_ltI, e_leI, e_gtI, e_geI, e_lenL, e_lenT, e_lenR, e_lenS, e_ixL, e_ixT, at0, at1, at2, at3, e_tupL, e_tupT, e_lstT, e_Own, e_ownK, e_Sub, e_For, e_Items, e_itL, e_itT, e_itR, e_Call, e_CallF, e_aNil, e_aVal, e_aVK, e_aVK2, step0, step1, step2, step3, out0, out1, out2, out3, outX1, outX2, outO1, outO2, outO3, e_onSh, e_onOw, decide_true, decide_false, Bool.not_true, Bool.not_false, List.cons_append, List.nil_append, List.getElem?_cons_zero, List.getElem?_cons_succ, List.set_cons_zero, List.set_cons_succ, Nat.reduceLT, Nat.reduceAdd, Nat.reduceSub, Option.map_some, finF, outsE, e_frz, d_rng7, e_forK, e_tnN, e_tnC, e_tnB, e_tnR, e_whT, e_whF, e_Raise, e_Par, e_parK, e_parK2, e_augK, e_Ch, e_chK1, e_chK2, e_chT, e_chF, e_Try, e_tryO, e_tru, e_While, e_abs, e_max2, e_min2, e_gSq2, e_tup1, e_lst1, e_tup2, e_lst2, e_tup3, e_lst3, e_tup4, e_lst4, e_tup5, e_lst5, e_tup6, e_lst6, e_tup7, e_lst7, e_tup8, e_lst8, alike_bad2 hs h]
  rfl
/-! ### rests alike -/
theorem alike_lc (ρ : ENV) (i a b : Nat) (p q : List Int) (hp : p.length = 7) (hq : q.length = 7) (hi : ρ[i]? = some none) (ha : ρ[a]? = some (some (.sh (tupI p)))) (hb : ρ[b]? = some (some (.sh (tupI q)))) :
    fLc (dRng1 (dC (.int 7))) (gSet i) (dT (dCmp .eq (dIx (dVar a) (dVar i)) (dIx (dVar b) (dVar i)))) (dVar i) [i] ρ = .ok (.lst ((alike p q).map D.int)) ρ := by
  have hil := (List.getElem?_eq_some_iff.mp hi).1
  have hai : i ≠ a := fun e => by rw [e, ha] at hi; cases hi
  have hbi : i ≠ b := fun e => by rw [e, hb] at hi; cases hi
  have := lc_filtI (ρ := ρ) (i := i) (ns := R7) (tt := dT (dCmp .eq (dIx (dVar a) (dVar i)) (dIx (dVar b) (dVar i)))) (te := dVar i) (di := dRng1 (dC (.int 7))) (fun r => at7 p r == at7 q r) id (d_rng7 ρ) hi (fun n hn => by
      have e1 : (ρ.set i (some (.sh (.int n))))[i]? = some (some (.sh (.int n))) := List.getElem?_set_self hil
      have e2 : (ρ.set i (some (.sh (.int n))))[a]? = some (some (.sh (tupI p))) := (List.getElem?_set_ne hai).trans ha
      have e3 : (ρ.set i (some (.sh (.int n))))[b]? = some (some (.sh (tupI q))) := (List.getElem?_set_ne hbi).trans hb
      have i1 := t_ix (at7_ok hp hn)
      have i2 := t_ix (at7_ok hq hn)
      simp only [e_T, e_op, e_var, e_bind, e1, e2, e3, e_lookS, e_op2, e_op1, i1, i2, e_of, e_eqI, e_toB]) (fun n hn _ => by
      have e1 : (ρ.set i (some (.sh (.int n))))[i]? = some (some (.sh (.int n))) := List.getElem?_set_self hil
      simp only [e_var, e1, e_lookS, id]) (by decide)
  rw [this, List.map_id]
  rfl
theorem alike_ok {s t : Sh} {B C : Int} (hs : s.fit B) (ht : t.fit C) : m_rests_alike [.sh (tupI s.lst), .sh (tupI t.lst)] = .ok (.sh (tupI (alike s.lst t.lst))) [] := by
  have hc := alike_lc [some (.sh (tupI s.lst)), some (.sh (tupI t.lst)), none] 2 0 1 s.lst t.lst s.len t.len rfl rfl rfl
  refine (e_run [] 3 _ _ rfl).trans ?_
  unfold b_rests_alike
  simp only [startE, List.map, List.length, List.replicate, e_Seq, e_Asg, e_Ret, e_RetF, e_Expr, e_exprK, e_op, e_op2, e_op1, e_un, e_is, e_B, e_bK, e_Cons, e_consK, e_consK2, e_Nil, e_var, e_C, e_bind, e_bindX, e_bindB, e_lookS, e_lookO, M.toD, e_of, e_asgK, e_gSet, e_stK, e_sqN, e_sqR, e_sqB, e_sqC, e_sNil, e_retK, e_retFK, e_add, e_vI, e_neg, e_fInt, e_fIntB, e_sIf, e_sifT, e_sifF, e_T, e_toB, e_Tru, e_truB, e_And, e_Or, e_andT, e_andF, e_orT, e_orF, e_Not, e_notK, e_AndV, e_OrV, e_andVT, e_andVF, e_orVT, e_orVF, e_NotV, e_notVK, e_If, e_ifT, e_ifF, e_Tup, e_Lst, e_LstF, e_tup0, e_lst0, e_lstF0, e_eqI, e_neI, e_ltI, e_leI, e_gtI, e_geI, e_lenL, e_lenT, e_lenR, e_lenS, e_ixL, e_ixT, at0, at1, at2, at3, e_tupL, e_tupT, e_lstT, e_Own, e_ownK, e_Sub, e_For, e_Items, e_itL, e_itT, e_itR, e_Call, e_CallF, e_aNil, e_aVal, e_aVK, e_aVK2, step0, step1, step2, step3, out0, out1, out2, out3, outX1, outX2, outO1, outO2, outO3, e_onSh, e_onOw, decide_true, decide_false, Bool.not_true, Bool.not_false, List.cons_append, List.nil_append, List.getElem?_cons_zero, List.getElem?_cons_succ, List.set_cons_zero, List.set_cons_succ, Nat.reduceLT, Nat.reduceAdd, Nat.reduceSub, Option.map_some, finF, outsE, e_frz, d_rng7, e_forK, e_tnN, e_tnC, e_tnB, e_tnR, e_whT, e_whF, e_Raise, e_Par, e_parK, e_parK2, e_augK, e_Ch, e_chK1, e_chK2, e_chT, e_chF, e_Try, e_tryO, e_tru, e_While, e_abs, e_max2, e_min2, e_gSq2, e_tup1, e_lst1, e_tup2, e_lst2, e_tup3, e_lst3, e_tup4, e_lst4, e_tup5, e_lst5, e_tup6, e_lst6, e_tup7, e_lst7, e_tup8, e_lst8, t_fld, t_eq, t_ne, t_len, t_is, t_itm, t_of, t_of2, t_lst, shape2_ok hs, shape2_ok ht, hc]
end L21
set_option Elab.async false
set_option linter.all false
set_option maxRecDepth 100000
namespace L21
open PySem L2 Rf Sv
/-! ### the most rests alike -/
theorem s_ee : CK.f .eq (.str "even") (.str "even") = some (.bl true) := by kernel_rfl
theorem s_ss : CK.f .eq (.str "saw") (.str "saw") = some (.bl true) := by kernel_rfl
theorem s_es : CK.f .eq (.str "even") (.str "saw") = some (.bl false) := by kernel_rfl
theorem s_se : CK.f .eq (.str "saw") (.str "even") = some (.bl false) := by kernel_rfl
theorem m__most_ok {s t : Sh} {B C : Int} (hs : s.fit B) (ht : t.fit C) : m__law_most [.sh (tupI s.lst), .sh (tupI t.lst)] = .ok (.sh (.int (alike s.lst t.lst).length)) [] := by
  by_cases he : s.lst = t.lst
  · rw [he, alike_self]
    refine (e_run [] 6 _ _ rfl).trans ?_
    unfold b__law_most
    simp only [startE, List.map, List.length, List.replicate, e_Seq, e_Asg, e_Ret, e_RetF, e_Expr, e_exprK, e_op, e_op2, e_op1, e_un, e_is, e_B, e_bK, e_Cons, e_consK, e_consK2, e_Nil, e_var, e_C, e_bind, e_bindX, e_bindB, e_lookS, e_lookO, M.toD, e_of, e_asgK, e_gSet, e_stK, e_sqN, e_sqR, e_sqB, e_sqC, e_sNil, e_retK, e_retFK, e_add, e_vI, e_neg, e_fInt, e_fIntB, e_sIf, e_sifT, e_sifF, e_T, e_toB, e_Tru, e_truB, e_And, e_Or, e_andT, e_andF, e_orT, e_orF, e_Not, e_notK, e_AndV, e_OrV, e_andVT, e_andVF, e_orVT, e_orVF, e_NotV, e_notVK, e_If, e_ifT, e_ifF, e_Tup, e_Lst, e_LstF, e_tup0, e_lst0, e_lstF0, e_eqI, e_neI, e_ltI, e_leI, e_gtI, e_geI, e_lenL, e_lenT, e_lenR, e_lenS, e_ixL, e_ixT, at0, at1, at2, at3, e_tupL, e_tupT, e_lstT, e_Own, e_ownK, e_Sub, e_For, e_Items, e_itL, e_itT, e_itR, e_Call, e_CallF, e_aNil, e_aVal, e_aVK, e_aVK2, step0, step1, step2, step3, out0, out1, out2, out3, outX1, outX2, outO1, outO2, outO3, e_onSh, e_onOw, decide_true, decide_false, Bool.not_true, Bool.not_false, List.cons_append, List.nil_append, List.getElem?_cons_zero, List.getElem?_cons_succ, List.set_cons_zero, List.set_cons_succ, Nat.reduceLT, Nat.reduceAdd, Nat.reduceSub, Option.map_some, finF, outsE, e_frz, d_rng7, e_forK, e_tnN, e_tnC, e_tnB, e_tnR, e_whT, e_whF, e_Raise, e_Par, e_parK, e_parK2, e_augK, e_Ch, e_chK1, e_chK2, e_chT, e_chF, e_Try, e_tryO, e_tru, e_While, e_abs, e_max2, e_min2, e_gSq2, e_tup1, e_lst1, e_tup2, e_lst2, e_tup3, e_lst3, e_tup4, e_lst4, e_tup5, e_lst5, e_tup6, e_lst6, e_tup7, e_lst7, e_tup8, e_lst8, t_fld, t_eq, t_ne, t_len, t_is, t_itm, t_of, t_of2, t_lst]
    rfl
  · have hd : decide (s.lst = t.lst) = false := decide_eq_false he
    rw [most_ok hs ht]
    refine (e_run [] 6 _ _ rfl).trans ?_
    unfold b__law_most
    have h1 := shape_ok hs
    have h2 := shape_ok ht
    cases s with
    | ev k =>
      cases t with
      | ev j =>
        have hkj : k ≠ j := fun e => he (by rw [e])
        simp only [startE, List.map, List.length, List.replicate, e_Seq, e_Asg, e_Ret, e_RetF, e_Expr, e_exprK, e_op, e_op2, e_op1, e_un, e_is, e_B, e_bK, e_Cons, e_consK, e_consK2, e_Nil, e_var, e_C, e_bind, e_bindX, e_bindB, e_lookS, e_lookO, M.toD, e_of, e_asgK, e_gSet, e_stK, e_sqN, e_sqR, e_sqB, e_sqC, e_sNil, e_retK, e_retFK, e_add, e_vI, e_neg, e_fInt, e_fIntB, e_sIf, e_sifT, e_sifF, e_T, e_toB, e_Tru, e_truB, e_And, e_Or, e_andT, e_andF, e_orT, e_orF, e_Not, e_notK, e_AndV, e_OrV, e_andVT, e_andVF, e_orVT, e_orVF, e_NotV, e_notVK, e_If, e_ifT, e_ifF, e_Tup, e_Lst, e_LstF, e_tup0, e_lst0, e_lstF0, e_eqI, e_neI, e_ltI, e_leI, e_gtI, e_geI, e_lenL, e_lenT, e_lenR, e_lenS, e_ixL, e_ixT, at0, at1, at2, at3, e_tupL, e_tupT, e_lstT, e_Own, e_ownK, e_Sub, e_For, e_Items, e_itL, e_itT, e_itR, e_Call, e_CallF, e_aNil, e_aVal, e_aVK, e_aVK2, step0, step1, step2, step3, out0, out1, out2, out3, outX1, outX2, outO1, outO2, outO3, e_onSh, e_onOw, decide_true, decide_false, Bool.not_true, Bool.not_false, List.cons_append, List.nil_append, List.getElem?_cons_zero, List.getElem?_cons_succ, List.set_cons_zero, List.set_cons_succ, Nat.reduceLT, Nat.reduceAdd, Nat.reduceSub, Option.map_some, finF, outsE, e_frz, d_rng7, e_forK, e_tnN, e_tnC, e_tnB, e_tnR, e_whT, e_whF, e_Raise, e_Par, e_parK, e_parK2, e_augK, e_Ch, e_chK1, e_chK2, e_chT, e_chF, e_Try, e_tryO, e_tru, e_While, e_abs, e_max2, e_min2, e_gSq2, e_tup1, e_lst1, e_tup2, e_lst2, e_tup3, e_lst3, e_tup4, e_lst4, e_tup5, e_lst5, e_tup6, e_lst6, e_tup7, e_lst7, e_tup8, e_lst8, t_fld, t_eq, t_ne, t_len, t_is, t_itm, t_of, t_of2, t_lst, hd, h1, h2, Sh.d, evenD, s_es, s_ee, most, if_neg hkj]
      | sw w m =>
        by_cases h3 : m < k
        · by_cases h4 : k ≤ m + 7
          · simp only [startE, List.map, List.length, List.replicate, e_Seq, e_Asg, e_Ret, e_RetF, e_Expr, e_exprK, e_op, e_op2, e_op1, e_un, e_is, e_B, e_bK, e_Cons, e_consK, e_consK2, e_Nil, e_var, e_C, e_bind, e_bindX, e_bindB, e_lookS, e_lookO, M.toD, e_of, e_asgK, e_gSet, e_stK, e_sqN, e_sqR, e_sqB, e_sqC, e_sNil, e_retK, e_retFK, e_add, e_vI, e_neg, e_fInt, e_fIntB, e_sIf, e_sifT, e_sifF, e_T, e_toB, e_Tru, e_truB, e_And, e_Or, e_andT, e_andF, e_orT, e_orF, e_Not, e_notK, e_AndV, e_OrV, e_andVT, e_andVF, e_orVT, e_orVF, e_NotV, e_notVK, e_If, e_ifT, e_ifF, e_Tup, e_Lst, e_LstF, e_tup0, e_lst0, e_lstF0, e_eqI, e_neI, e_ltI, e_leI, e_gtI, e_geI, e_lenL, e_lenT, e_lenR, e_lenS, e_ixL, e_ixT, at0, at1, at2, at3, e_tupL, e_tupT, e_lstT, e_Own, e_ownK, e_Sub, e_For, e_Items, e_itL, e_itT, e_itR, e_Call, e_CallF, e_aNil, e_aVal, e_aVK, e_aVK2, step0, step1, step2, step3, out0, out1, out2, out3, outX1, outX2, outO1, outO2, outO3, e_onSh, e_onOw, decide_true, decide_false, Bool.not_true, Bool.not_false, List.cons_append, List.nil_append, List.getElem?_cons_zero, List.getElem?_cons_succ, List.set_cons_zero, List.set_cons_succ, Nat.reduceLT, Nat.reduceAdd, Nat.reduceSub, Option.map_some, finF, outsE, e_frz, d_rng7, e_forK, e_tnN, e_tnC, e_tnB, e_tnR, e_whT, e_whF, e_Raise, e_Par, e_parK, e_parK2, e_augK, e_Ch, e_chK1, e_chK2, e_chT, e_chF, e_Try, e_tryO, e_tru, e_While, e_abs, e_max2, e_min2, e_gSq2, e_tup1, e_lst1, e_tup2, e_lst2, e_tup3, e_lst3, e_tup4, e_lst4, e_tup5, e_lst5, e_tup6, e_lst6, e_tup7, e_lst7, e_tup8, e_lst8, t_fld, t_eq, t_ne, t_len, t_is, t_itm, t_of, t_of2, t_lst, hd, h1, h2, Sh.d, evenD, sawD, s_es, s_ee, s_se, s_ss, most, h3, h4, and_self, if_true]
          · simp only [startE, List.map, List.length, List.replicate, e_Seq, e_Asg, e_Ret, e_RetF, e_Expr, e_exprK, e_op, e_op2, e_op1, e_un, e_is, e_B, e_bK, e_Cons, e_consK, e_consK2, e_Nil, e_var, e_C, e_bind, e_bindX, e_bindB, e_lookS, e_lookO, M.toD, e_of, e_asgK, e_gSet, e_stK, e_sqN, e_sqR, e_sqB, e_sqC, e_sNil, e_retK, e_retFK, e_add, e_vI, e_neg, e_fInt, e_fIntB, e_sIf, e_sifT, e_sifF, e_T, e_toB, e_Tru, e_truB, e_And, e_Or, e_andT, e_andF, e_orT, e_orF, e_Not, e_notK, e_AndV, e_OrV, e_andVT, e_andVF, e_orVT, e_orVF, e_NotV, e_notVK, e_If, e_ifT, e_ifF, e_Tup, e_Lst, e_LstF, e_tup0, e_lst0, e_lstF0, e_eqI, e_neI, e_ltI, e_leI, e_gtI, e_geI, e_lenL, e_lenT, e_lenR, e_lenS, e_ixL, e_ixT, at0, at1, at2, at3, e_tupL, e_tupT, e_lstT, e_Own, e_ownK, e_Sub, e_For, e_Items, e_itL, e_itT, e_itR, e_Call, e_CallF, e_aNil, e_aVal, e_aVK, e_aVK2, step0, step1, step2, step3, out0, out1, out2, out3, outX1, outX2, outO1, outO2, outO3, e_onSh, e_onOw, decide_true, decide_false, Bool.not_true, Bool.not_false, List.cons_append, List.nil_append, List.getElem?_cons_zero, List.getElem?_cons_succ, List.set_cons_zero, List.set_cons_succ, Nat.reduceLT, Nat.reduceAdd, Nat.reduceSub, Option.map_some, finF, outsE, e_frz, d_rng7, e_forK, e_tnN, e_tnC, e_tnB, e_tnR, e_whT, e_whF, e_Raise, e_Par, e_parK, e_parK2, e_augK, e_Ch, e_chK1, e_chK2, e_chT, e_chF, e_Try, e_tryO, e_tru, e_While, e_abs, e_max2, e_min2, e_gSq2, e_tup1, e_lst1, e_tup2, e_lst2, e_tup3, e_lst3, e_tup4, e_lst4, e_tup5, e_lst5, e_tup6, e_lst6, e_tup7, e_lst7, e_tup8, e_lst8, t_fld, t_eq, t_ne, t_len, t_is, t_itm, t_of, t_of2, t_lst, hd, h1, h2, Sh.d, evenD, sawD, s_es, s_ee, s_se, s_ss, most, h3, h4, and_false, if_false, Bool.false_eq_true]
        · simp only [startE, List.map, List.length, List.replicate, e_Seq, e_Asg, e_Ret, e_RetF, e_Expr, e_exprK, e_op, e_op2, e_op1, e_un, e_is, e_B, e_bK, e_Cons, e_consK, e_consK2, e_Nil, e_var, e_C, e_bind, e_bindX, e_bindB, e_lookS, e_lookO, M.toD, e_of, e_asgK, e_gSet, e_stK, e_sqN, e_sqR, e_sqB, e_sqC, e_sNil, e_retK, e_retFK, e_add, e_vI, e_neg, e_fInt, e_fIntB, e_sIf, e_sifT, e_sifF, e_T, e_toB, e_Tru, e_truB, e_And, e_Or, e_andT, e_andF, e_orT, e_orF, e_Not, e_notK, e_AndV, e_OrV, e_andVT, e_andVF, e_orVT, e_orVF, e_NotV, e_notVK, e_If, e_ifT, e_ifF, e_Tup, e_Lst, e_LstF, e_tup0, e_lst0, e_lstF0, e_eqI, e_neI, e_ltI, e_leI, e_gtI, e_geI, e_lenL, e_lenT, e_lenR, e_lenS, e_ixL, e_ixT, at0, at1, at2, at3, e_tupL, e_tupT, e_lstT, e_Own, e_ownK, e_Sub, e_For, e_Items, e_itL, e_itT, e_itR, e_Call, e_CallF, e_aNil, e_aVal, e_aVK, e_aVK2, step0, step1, step2, step3, out0, out1, out2, out3, outX1, outX2, outO1, outO2, outO3, e_onSh, e_onOw, decide_true, decide_false, Bool.not_true, Bool.not_false, List.cons_append, List.nil_append, List.getElem?_cons_zero, List.getElem?_cons_succ, List.set_cons_zero, List.set_cons_succ, Nat.reduceLT, Nat.reduceAdd, Nat.reduceSub, Option.map_some, finF, outsE, e_frz, d_rng7, e_forK, e_tnN, e_tnC, e_tnB, e_tnR, e_whT, e_whF, e_Raise, e_Par, e_parK, e_parK2, e_augK, e_Ch, e_chK1, e_chK2, e_chT, e_chF, e_Try, e_tryO, e_tru, e_While, e_abs, e_max2, e_min2, e_gSq2, e_tup1, e_lst1, e_tup2, e_lst2, e_tup3, e_lst3, e_tup4, e_lst4, e_tup5, e_lst5, e_tup6, e_lst6, e_tup7, e_lst7, e_tup8, e_lst8, t_fld, t_eq, t_ne, t_len, t_is, t_itm, t_of, t_of2, t_lst, hd, h1, h2, Sh.d, evenD, sawD, s_es, s_ee, s_se, s_ss, most, h3, false_and, if_false, Bool.false_eq_true]
    | sw w m =>
      cases t with
      | ev k =>
        by_cases h3 : m < k
        · by_cases h4 : k ≤ m + 7
          · simp only [startE, List.map, List.length, List.replicate, e_Seq, e_Asg, e_Ret, e_RetF, e_Expr, e_exprK, e_op, e_op2, e_op1, e_un, e_is, e_B, e_bK, e_Cons, e_consK, e_consK2, e_Nil, e_var, e_C, e_bind, e_bindX, e_bindB, e_lookS, e_lookO, M.toD, e_of, e_asgK, e_gSet, e_stK, e_sqN, e_sqR, e_sqB, e_sqC, e_sNil, e_retK, e_retFK, e_add, e_vI, e_neg, e_fInt, e_fIntB, e_sIf, e_sifT, e_sifF, e_T, e_toB, e_Tru, e_truB, e_And, e_Or, e_andT, e_andF, e_orT, e_orF, e_Not, e_notK, e_AndV, e_OrV, e_andVT, e_andVF, e_orVT, e_orVF, e_NotV, e_notVK, e_If, e_ifT, e_ifF, e_Tup, e_Lst, e_LstF, e_tup0, e_lst0, e_lstF0, e_eqI, e_neI, e_ltI, e_leI, e_gtI, e_geI, e_lenL, e_lenT, e_lenR, e_lenS, e_ixL, e_ixT, at0, at1, at2, at3, e_tupL, e_tupT, e_lstT, e_Own, e_ownK, e_Sub, e_For, e_Items, e_itL, e_itT, e_itR, e_Call, e_CallF, e_aNil, e_aVal, e_aVK, e_aVK2, step0, step1, step2, step3, out0, out1, out2, out3, outX1, outX2, outO1, outO2, outO3, e_onSh, e_onOw, decide_true, decide_false, Bool.not_true, Bool.not_false, List.cons_append, List.nil_append, List.getElem?_cons_zero, List.getElem?_cons_succ, List.set_cons_zero, List.set_cons_succ, Nat.reduceLT, Nat.reduceAdd, Nat.reduceSub, Option.map_some, finF, outsE, e_frz, d_rng7, e_forK, e_tnN, e_tnC, e_tnB, e_tnR, e_whT, e_whF, e_Raise, e_Par, e_parK, e_parK2, e_augK, e_Ch, e_chK1, e_chK2, e_chT, e_chF, e_Try, e_tryO, e_tru, e_While, e_abs, e_max2, e_min2, e_gSq2, e_tup1, e_lst1, e_tup2, e_lst2, e_tup3, e_lst3, e_tup4, e_lst4, e_tup5, e_lst5, e_tup6, e_lst6, e_tup7, e_lst7, e_tup8, e_lst8, t_fld, t_eq, t_ne, t_len, t_is, t_itm, t_of, t_of2, t_lst, hd, h1, h2, Sh.d, evenD, sawD, s_es, s_ee, s_se, s_ss, most, h3, h4, and_self, if_true]
          · simp only [startE, List.map, List.length, List.replicate, e_Seq, e_Asg, e_Ret, e_RetF, e_Expr, e_exprK, e_op, e_op2, e_op1, e_un, e_is, e_B, e_bK, e_Cons, e_consK, e_consK2, e_Nil, e_var, e_C, e_bind, e_bindX, e_bindB, e_lookS, e_lookO, M.toD, e_of, e_asgK, e_gSet, e_stK, e_sqN, e_sqR, e_sqB, e_sqC, e_sNil, e_retK, e_retFK, e_add, e_vI, e_neg, e_fInt, e_fIntB, e_sIf, e_sifT, e_sifF, e_T, e_toB, e_Tru, e_truB, e_And, e_Or, e_andT, e_andF, e_orT, e_orF, e_Not, e_notK, e_AndV, e_OrV, e_andVT, e_andVF, e_orVT, e_orVF, e_NotV, e_notVK, e_If, e_ifT, e_ifF, e_Tup, e_Lst, e_LstF, e_tup0, e_lst0, e_lstF0, e_eqI, e_neI, e_ltI, e_leI, e_gtI, e_geI, e_lenL, e_lenT, e_lenR, e_lenS, e_ixL, e_ixT, at0, at1, at2, at3, e_tupL, e_tupT, e_lstT, e_Own, e_ownK, e_Sub, e_For, e_Items, e_itL, e_itT, e_itR, e_Call, e_CallF, e_aNil, e_aVal, e_aVK, e_aVK2, step0, step1, step2, step3, out0, out1, out2, out3, outX1, outX2, outO1, outO2, outO3, e_onSh, e_onOw, decide_true, decide_false, Bool.not_true, Bool.not_false, List.cons_append, List.nil_append, List.getElem?_cons_zero, List.getElem?_cons_succ, List.set_cons_zero, List.set_cons_succ, Nat.reduceLT, Nat.reduceAdd, Nat.reduceSub, Option.map_some, finF, outsE, e_frz, d_rng7, e_forK, e_tnN, e_tnC, e_tnB, e_tnR, e_whT, e_whF, e_Raise, e_Par, e_parK, e_parK2, e_augK, e_Ch, e_chK1, e_chK2, e_chT, e_chF, e_Try, e_tryO, e_tru, e_While, e_abs, e_max2, e_min2, e_gSq2, e_tup1, e_lst1, e_tup2, e_lst2, e_tup3, e_lst3, e_tup4, e_lst4, e_tup5, e_lst5, e_tup6, e_lst6, e_tup7, e_lst7, e_tup8, e_lst8, t_fld, t_eq, t_ne, t_len, t_is, t_itm, t_of, t_of2, t_lst, hd, h1, h2, Sh.d, evenD, sawD, s_es, s_ee, s_se, s_ss, most, h3, h4, and_false, if_false, Bool.false_eq_true]
        · simp only [startE, List.map, List.length, List.replicate, e_Seq, e_Asg, e_Ret, e_RetF, e_Expr, e_exprK, e_op, e_op2, e_op1, e_un, e_is, e_B, e_bK, e_Cons, e_consK, e_consK2, e_Nil, e_var, e_C, e_bind, e_bindX, e_bindB, e_lookS, e_lookO, M.toD, e_of, e_asgK, e_gSet, e_stK, e_sqN, e_sqR, e_sqB, e_sqC, e_sNil, e_retK, e_retFK, e_add, e_vI, e_neg, e_fInt, e_fIntB, e_sIf, e_sifT, e_sifF, e_T, e_toB, e_Tru, e_truB, e_And, e_Or, e_andT, e_andF, e_orT, e_orF, e_Not, e_notK, e_AndV, e_OrV, e_andVT, e_andVF, e_orVT, e_orVF, e_NotV, e_notVK, e_If, e_ifT, e_ifF, e_Tup, e_Lst, e_LstF, e_tup0, e_lst0, e_lstF0, e_eqI, e_neI, e_ltI, e_leI, e_gtI, e_geI, e_lenL, e_lenT, e_lenR, e_lenS, e_ixL, e_ixT, at0, at1, at2, at3, e_tupL, e_tupT, e_lstT, e_Own, e_ownK, e_Sub, e_For, e_Items, e_itL, e_itT, e_itR, e_Call, e_CallF, e_aNil, e_aVal, e_aVK, e_aVK2, step0, step1, step2, step3, out0, out1, out2, out3, outX1, outX2, outO1, outO2, outO3, e_onSh, e_onOw, decide_true, decide_false, Bool.not_true, Bool.not_false, List.cons_append, List.nil_append, List.getElem?_cons_zero, List.getElem?_cons_succ, List.set_cons_zero, List.set_cons_succ, Nat.reduceLT, Nat.reduceAdd, Nat.reduceSub, Option.map_some, finF, outsE, e_frz, d_rng7, e_forK, e_tnN, e_tnC, e_tnB, e_tnR, e_whT, e_whF, e_Raise, e_Par, e_parK, e_parK2, e_augK, e_Ch, e_chK1, e_chK2, e_chT, e_chF, e_Try, e_tryO, e_tru, e_While, e_abs, e_max2, e_min2, e_gSq2, e_tup1, e_lst1, e_tup2, e_lst2, e_tup3, e_lst3, e_tup4, e_lst4, e_tup5, e_lst5, e_tup6, e_lst6, e_tup7, e_lst7, e_tup8, e_lst8, t_fld, t_eq, t_ne, t_len, t_is, t_itm, t_of, t_of2, t_lst, hd, h1, h2, Sh.d, evenD, sawD, s_es, s_ee, s_se, s_ss, most, h3, false_and, if_false, Bool.false_eq_true]
      | sw v n =>
        by_cases hw : w = v
        · have hb : (w == v) = true := beq_iff_eq.mpr hw
          simp only [startE, List.map, List.length, List.replicate, e_Seq, e_Asg, e_Ret, e_RetF, e_Expr, e_exprK, e_op, e_op2, e_op1, e_un, e_is, e_B, e_bK, e_Cons, e_consK, e_consK2, e_Nil, e_var, e_C, e_bind, e_bindX, e_bindB, e_lookS, e_lookO, M.toD, e_of, e_asgK, e_gSet, e_stK, e_sqN, e_sqR, e_sqB, e_sqC, e_sNil, e_retK, e_retFK, e_add, e_vI, e_neg, e_fInt, e_fIntB, e_sIf, e_sifT, e_sifF, e_T, e_toB, e_Tru, e_truB, e_And, e_Or, e_andT, e_andF, e_orT, e_orF, e_Not, e_notK, e_AndV, e_OrV, e_andVT, e_andVF, e_orVT, e_orVF, e_NotV, e_notVK, e_If, e_ifT, e_ifF, e_Tup, e_Lst, e_LstF, e_tup0, e_lst0, e_lstF0, e_eqI, e_neI, e_ltI, e_leI, e_gtI, e_geI, e_lenL, e_lenT, e_lenR, e_lenS, e_ixL, e_ixT, at0, at1, at2, at3, e_tupL, e_tupT, e_lstT, e_Own, e_ownK, e_Sub, e_For, e_Items, e_itL, e_itT, e_itR, e_Call, e_CallF, e_aNil, e_aVal, e_aVK, e_aVK2, step0, step1, step2, step3, out0, out1, out2, out3, outX1, outX2, outO1, outO2, outO3, e_onSh, e_onOw, decide_true, decide_false, Bool.not_true, Bool.not_false, List.cons_append, List.nil_append, List.getElem?_cons_zero, List.getElem?_cons_succ, List.set_cons_zero, List.set_cons_succ, Nat.reduceLT, Nat.reduceAdd, Nat.reduceSub, Option.map_some, finF, outsE, e_frz, d_rng7, e_forK, e_tnN, e_tnC, e_tnB, e_tnR, e_whT, e_whF, e_Raise, e_Par, e_parK, e_parK2, e_augK, e_Ch, e_chK1, e_chK2, e_chT, e_chF, e_Try, e_tryO, e_tru, e_While, e_abs, e_max2, e_min2, e_gSq2, e_tup1, e_lst1, e_tup2, e_lst2, e_tup3, e_lst3, e_tup4, e_lst4, e_tup5, e_lst5, e_tup6, e_lst6, e_tup7, e_lst7, e_tup8, e_lst8, t_fld, t_eq, t_ne, t_len, t_is, t_itm, t_of, t_of2, t_lst, hd, h1, h2, Sh.d, evenD, sawD, s_es, s_ee, s_se, s_ss, most, hb, if_pos hw]
        · have hb : (w == v) = false := beq_false_of_ne hw
          simp only [startE, List.map, List.length, List.replicate, e_Seq, e_Asg, e_Ret, e_RetF, e_Expr, e_exprK, e_op, e_op2, e_op1, e_un, e_is, e_B, e_bK, e_Cons, e_consK, e_consK2, e_Nil, e_var, e_C, e_bind, e_bindX, e_bindB, e_lookS, e_lookO, M.toD, e_of, e_asgK, e_gSet, e_stK, e_sqN, e_sqR, e_sqB, e_sqC, e_sNil, e_retK, e_retFK, e_add, e_vI, e_neg, e_fInt, e_fIntB, e_sIf, e_sifT, e_sifF, e_T, e_toB, e_Tru, e_truB, e_And, e_Or, e_andT, e_andF, e_orT, e_orF, e_Not, e_notK, e_AndV, e_OrV, e_andVT, e_andVF, e_orVT, e_orVF, e_NotV, e_notVK, e_If, e_ifT, e_ifF, e_Tup, e_Lst, e_LstF, e_tup0, e_lst0, e_lstF0, e_eqI, e_neI, e_ltI, e_leI, e_gtI, e_geI, e_lenL, e_lenT, e_lenR, e_lenS, e_ixL, e_ixT, at0, at1, at2, at3, e_tupL, e_tupT, e_lstT, e_Own, e_ownK, e_Sub, e_For, e_Items, e_itL, e_itT, e_itR, e_Call, e_CallF, e_aNil, e_aVal, e_aVK, e_aVK2, step0, step1, step2, step3, out0, out1, out2, out3, outX1, outX2, outO1, outO2, outO3, e_onSh, e_onOw, decide_true, decide_false, Bool.not_true, Bool.not_false, List.cons_append, List.nil_append, List.getElem?_cons_zero, List.getElem?_cons_succ, List.set_cons_zero, List.set_cons_succ, Nat.reduceLT, Nat.reduceAdd, Nat.reduceSub, Option.map_some, finF, outsE, e_frz, d_rng7, e_forK, e_tnN, e_tnC, e_tnB, e_tnR, e_whT, e_whF, e_Raise, e_Par, e_parK, e_parK2, e_augK, e_Ch, e_chK1, e_chK2, e_chT, e_chF, e_Try, e_tryO, e_tru, e_While, e_abs, e_max2, e_min2, e_gSq2, e_tup1, e_lst1, e_tup2, e_lst2, e_tup3, e_lst3, e_tup4, e_lst4, e_tup5, e_lst5, e_tup6, e_lst6, e_tup7, e_lst7, e_tup8, e_lst8, t_fld, t_eq, t_ne, t_len, t_is, t_itm, t_of, t_of2, t_lst, hd, h1, h2, Sh.d, evenD, sawD, s_es, s_ee, s_se, s_ss, most, hb, if_neg hw]
/-! ### hops -/
def wordD : Hop → D
  | .pl k => .tup [.str "today", .int k]
  | h => h.d
def HopW : Hop → Prop
  | .pl _ => True
  | h => h.fit
theorem cnt_pl (d k : Int) : m__law_counted [.sh (.int d), .sh (.tup [.str "today", .int k])] = .ok (.sh (.int (d + k))) [] := by kernel_rfl
theorem s_cc : CK.f .eq (.str "coming") (.str "coming") = some (.bl true) := by kernel_rfl
theorem s_lc : CK.f .eq (.str "last") (.str "coming") = some (.bl false) := by kernel_rfl
theorem s_lt : CK.f .eq (.str "last") (.str "then coming") = some (.bl false) := by kernel_rfl
theorem s_ll : CK.f .eq (.str "last") (.str "last") = some (.bl true) := by kernel_rfl
theorem s_pp : CK.f .eq (.str "plus") (.str "plus") = some (.bl true) := by kernel_rfl
theorem s_cp : CK.f .eq (.str "coming") (.str "plus") = some (.bl false) := by kernel_rfl
theorem s_lp : CK.f .eq (.str "last") (.str "plus") = some (.bl false) := by kernel_rfl
theorem i_c : CK.f .in_ (.str "coming") (.lst [.str "coming", .str "last"]) = some (.bl true) := by kernel_rfl
theorem i_l : CK.f .in_ (.str "last") (.lst [.str "coming", .str "last"]) = some (.bl true) := by kernel_rfl
theorem counted_ok {h : Hop} (hh : HopW h) (d : Int) : m__law_counted [.sh (.int d), .sh (wordD h)] = .ok (.sh (.int (h.on d))) [] := by
  cases h with
  | pl k => exact cnt_pl d k
  | co w =>
    obtain ⟨h0, h6⟩ := hh
    refine (e_run [] 2 _ _ rfl).trans ?_
    unfold b__law_counted
    simp only [startE, List.map, List.length, List.replicate, e_Seq, e_Asg, e_Ret, e_RetF, e_Expr, e_exprK, e_op, e_op2, e_op1, e_un, e_is, e_B, e_bK, e_Cons, e_consK, e_consK2, e_Nil, e_var, e_C, e_bind, e_bindX, e_bindB, e_lookS, e_lookO, M.toD, e_of, e_asgK, e_gSet, e_stK, e_sqN, e_sqR, e_sqB, e_sqC, e_sNil, e_retK, e_retFK, e_add, e_vI, e_neg, e_fInt, e_fIntB, e_sIf, e_sifT, e_sifF, e_T, e_toB, e_Tru, e_truB, e_And, e_Or, e_andT, e_andF, e_orT, e_orF, e_Not, e_notK, e_AndV, e_OrV, e_andVT, e_andVF, e_orVT, e_orVF, e_NotV, e_notVK, e_If, e_ifT, e_ifF, e_Tup, e_Lst, e_LstF, e_tup0, e_lst0, e_lstF0, e_eqI, e_neI, e_ltI, e_leI, e_gtI, e_geI, e_lenL, e_lenT, e_lenR, e_lenS, e_ixL, e_ixT, at0, at1, at2, at3, e_tupL, e_tupT, e_lstT, e_Own, e_ownK, e_Sub, e_For, e_Items, e_itL, e_itT, e_itR, e_Call, e_CallF, e_aNil, e_aVal, e_aVK, e_aVK2, step0, step1, step2, step3, out0, out1, out2, out3, outX1, outX2, outO1, outO2, outO3, e_onSh, e_onOw, decide_true, decide_false, Bool.not_true, Bool.not_false, List.cons_append, List.nil_append, List.getElem?_cons_zero, List.getElem?_cons_succ, List.set_cons_zero, List.set_cons_succ, Nat.reduceLT, Nat.reduceAdd, Nat.reduceSub, Option.map_some, finF, outsE, e_frz, d_rng7, e_forK, e_tnN, e_tnC, e_tnB, e_tnR, e_whT, e_whF, e_Raise, e_Par, e_parK, e_parK2, e_augK, e_Ch, e_chK1, e_chK2, e_chT, e_chF, e_Try, e_tryO, e_tru, e_While, e_abs, e_max2, e_min2, e_gSq2, e_tup1, e_lst1, e_tup2, e_lst2, e_tup3, e_lst3, e_tup4, e_lst4, e_tup5, e_lst5, e_tup6, e_lst6, e_tup7, e_lst7, e_tup8, e_lst8, wordD, Hop.d, s_cc, coming_ok d w h0 h6, Hop.on]
  | la w =>
    obtain ⟨h0, h6⟩ := hh
    refine (e_run [] 2 _ _ rfl).trans ?_
    unfold b__law_counted
    simp only [startE, List.map, List.length, List.replicate, e_Seq, e_Asg, e_Ret, e_RetF, e_Expr, e_exprK, e_op, e_op2, e_op1, e_un, e_is, e_B, e_bK, e_Cons, e_consK, e_consK2, e_Nil, e_var, e_C, e_bind, e_bindX, e_bindB, e_lookS, e_lookO, M.toD, e_of, e_asgK, e_gSet, e_stK, e_sqN, e_sqR, e_sqB, e_sqC, e_sNil, e_retK, e_retFK, e_add, e_vI, e_neg, e_fInt, e_fIntB, e_sIf, e_sifT, e_sifF, e_T, e_toB, e_Tru, e_truB, e_And, e_Or, e_andT, e_andF, e_orT, e_orF, e_Not, e_notK, e_AndV, e_OrV, e_andVT, e_andVF, e_orVT, e_orVF, e_NotV, e_notVK, e_If, e_ifT, e_ifF, e_Tup, e_Lst, e_LstF, e_tup0, e_lst0, e_lstF0, e_eqI, e_neI, e_ltI, e_leI, e_gtI, e_geI, e_lenL, e_lenT, e_lenR, e_lenS, e_ixL, e_ixT, at0, at1, at2, at3, e_tupL, e_tupT, e_lstT, e_Own, e_ownK, e_Sub, e_For, e_Items, e_itL, e_itT, e_itR, e_Call, e_CallF, e_aNil, e_aVal, e_aVK, e_aVK2, step0, step1, step2, step3, out0, out1, out2, out3, outX1, outX2, outO1, outO2, outO3, e_onSh, e_onOw, decide_true, decide_false, Bool.not_true, Bool.not_false, List.cons_append, List.nil_append, List.getElem?_cons_zero, List.getElem?_cons_succ, List.set_cons_zero, List.set_cons_succ, Nat.reduceLT, Nat.reduceAdd, Nat.reduceSub, Option.map_some, finF, outsE, e_frz, d_rng7, e_forK, e_tnN, e_tnC, e_tnB, e_tnR, e_whT, e_whF, e_Raise, e_Par, e_parK, e_parK2, e_augK, e_Ch, e_chK1, e_chK2, e_chT, e_chF, e_Try, e_tryO, e_tru, e_While, e_abs, e_max2, e_min2, e_gSq2, e_tup1, e_lst1, e_tup2, e_lst2, e_tup3, e_lst3, e_tup4, e_lst4, e_tup5, e_lst5, e_tup6, e_lst6, e_tup7, e_lst7, e_tup8, e_lst8, wordD, Hop.d, s_lc, s_lt, s_ll, last_ok d w h0 h6, Hop.on]
theorem hopped_lc {s : Sh} {h : Hop} {B : Int} (hs : s.fit B) (hh : HopW h) (x : Option DV) : fLc (dRng1 (dC (.int 7))) (gSet 3) dYes (dSub (dCall m__law_counted (aVal (dAdd (dVar 3) (dIx (dVar 0) (dVar 3))) (aVal (dVar 2) (aNil)))) (dVar 3)) [3] [some (.sh (tupI s.lst)), x, some (.sh (wordD h)), none]
    = .ok (.lst ((s.hop h).lst.map D.int)) [some (.sh (tupI s.lst)), x, some (.sh (wordD h)), none] := by
  have := lc_mapI (ρ := [some (.sh (tupI s.lst)), x, some (.sh (wordD h)), none]) (i := 3) (ns := R7) (di := dRng1 (dC (.int 7))) (te := dSub (dCall m__law_counted (aVal (dAdd (dVar 3) (dIx (dVar 0) (dVar 3))) (aVal (dVar 2) (aNil)))) (dVar 3)) (fun r => h.on (r + s.at r) - r) (d_rng7 _) rfl (fun n hn => by
    have i1 := t_ix (s.atI hn)
    simp only [startE, List.map, List.length, List.replicate, e_Seq, e_Asg, e_Ret, e_RetF, e_Expr, e_exprK, e_op, e_op2, e_op1, e_un, e_is, e_B, e_bK, e_Cons, e_consK, e_consK2, e_Nil, e_var, e_C, e_bind, e_bindX, e_bindB, e_lookS, e_lookO, M.toD, e_of, e_asgK, e_gSet, e_stK, e_sqN, e_sqR, e_sqB, e_sqC, e_sNil, e_retK, e_retFK, e_add, e_vI, e_neg, e_fInt, e_fIntB, e_sIf, e_sifT, e_sifF, e_T, e_toB, e_Tru, e_truB, e_And, e_Or, e_andT, e_andF, e_orT, e_orF, e_Not, e_notK, e_AndV, e_OrV, e_andVT, e_andVF, e_orVT, e_orVF, e_NotV, e_notVK, e_If, e_ifT, e_ifF, e_Tup, e_Lst, e_LstF, e_tup0, e_lst0, e_lstF0, e_eqI, e_neI, e_ltI, e_leI, e_gtI, e_geI, e_lenL, e_lenT, e_lenR, e_lenS, e_ixL, e_ixT, at0, at1, at2, at3, e_tupL, e_tupT, e_lstT, e_Own, e_ownK, e_Sub, e_For, e_Items, e_itL, e_itT, e_itR, e_Call, e_CallF, e_aNil, e_aVal, e_aVK, e_aVK2, step0, step1, step2, step3, out0, out1, out2, out3, outX1, outX2, outO1, outO2, outO3, e_onSh, e_onOw, decide_true, decide_false, Bool.not_true, Bool.not_false, List.cons_append, List.nil_append, List.getElem?_cons_zero, List.getElem?_cons_succ, List.set_cons_zero, List.set_cons_succ, Nat.reduceLT, Nat.reduceAdd, Nat.reduceSub, Option.map_some, finF, outsE, e_frz, d_rng7, e_forK, e_tnN, e_tnC, e_tnB, e_tnR, e_whT, e_whF, e_Raise, e_Par, e_parK, e_parK2, e_augK, e_Ch, e_chK1, e_chK2, e_chT, e_chF, e_Try, e_tryO, e_tru, e_While, e_abs, e_max2, e_min2, e_gSq2, e_tup1, e_lst1, e_tup2, e_lst2, e_tup3, e_lst3, e_tup4, e_lst4, e_tup5, e_lst5, e_tup6, e_lst6, e_tup7, e_lst7, e_tup8, e_lst8, i1, counted_ok hh]) (by decide)
  rw [this, List.map_congr_left (g := (s.hop h).at) fun r _ => hop_at hs (by cases h <;> exact hh) r, Sh.map]
theorem hopped_ok {s : Sh} {h : Hop} {B : Int} (hs : s.fit B) (hh : HopW h) : m__law_hopped [.sh (tupI s.lst), .sh h.d] = .ok (.sh (tupI (s.hop h).lst)) [] := by
  have hc := hopped_lc hs hh (some (.sh h.d))
  refine (e_run [] 4 _ _ rfl).trans ?_
  unfold b__law_hopped
  cases h with
  | pl k =>
    simp only [wordD] at hc
    simp only [startE, List.map, List.length, List.replicate, e_Seq, e_Asg, e_Ret, e_RetF, e_Expr, e_exprK, e_op, e_op2, e_op1, e_un, e_is, e_B, e_bK, e_Cons, e_consK, e_consK2, e_Nil, e_var, e_C, e_bind, e_bindX, e_bindB, e_lookS, e_lookO, M.toD, e_of, e_asgK, e_gSet, e_stK, e_sqN, e_sqR, e_sqB, e_sqC, e_sNil, e_retK, e_retFK, e_add, e_vI, e_neg, e_fInt, e_fIntB, e_sIf, e_sifT, e_sifF, e_T, e_toB, e_Tru, e_truB, e_And, e_Or, e_andT, e_andF, e_orT, e_orF, e_Not, e_notK, e_AndV, e_OrV, e_andVT, e_andVF, e_orVT, e_orVF, e_NotV, e_notVK, e_If, e_ifT, e_ifF, e_Tup, e_Lst, e_LstF, e_tup0, e_lst0, e_lstF0, e_eqI, e_neI, e_ltI, e_leI, e_gtI, e_geI, e_lenL, e_lenT, e_lenR, e_lenS, e_ixL, e_ixT, at0, at1, at2, at3, e_tupL, e_tupT, e_lstT, e_Own, e_ownK, e_Sub, e_For, e_Items, e_itL, e_itT, e_itR, e_Call, e_CallF, e_aNil, e_aVal, e_aVK, e_aVK2, step0, step1, step2, step3, out0, out1, out2, out3, outX1, outX2, outO1, outO2, outO3, e_onSh, e_onOw, decide_true, decide_false, Bool.not_true, Bool.not_false, List.cons_append, List.nil_append, List.getElem?_cons_zero, List.getElem?_cons_succ, List.set_cons_zero, List.set_cons_succ, Nat.reduceLT, Nat.reduceAdd, Nat.reduceSub, Option.map_some, finF, outsE, e_frz, d_rng7, e_forK, e_tnN, e_tnC, e_tnB, e_tnR, e_whT, e_whF, e_Raise, e_Par, e_parK, e_parK2, e_augK, e_Ch, e_chK1, e_chK2, e_chT, e_chF, e_Try, e_tryO, e_tru, e_While, e_abs, e_max2, e_min2, e_gSq2, e_tup1, e_lst1, e_tup2, e_lst2, e_tup3, e_lst3, e_tup4, e_lst4, e_tup5, e_lst5, e_tup6, e_lst6, e_tup7, e_lst7, e_tup8, e_lst8, Hop.d, s_pp] at hc ⊢
    simp only [startE, List.map, List.length, List.replicate, e_Seq, e_Asg, e_Ret, e_RetF, e_Expr, e_exprK, e_op, e_op2, e_op1, e_un, e_is, e_B, e_bK, e_Cons, e_consK, e_consK2, e_Nil, e_var, e_C, e_bind, e_bindX, e_bindB, e_lookS, e_lookO, M.toD, e_of, e_asgK, e_gSet, e_stK, e_sqN, e_sqR, e_sqB, e_sqC, e_sNil, e_retK, e_retFK, e_add, e_vI, e_neg, e_fInt, e_fIntB, e_sIf, e_sifT, e_sifF, e_T, e_toB, e_Tru, e_truB, e_And, e_Or, e_andT, e_andF, e_orT, e_orF, e_Not, e_notK, e_AndV, e_OrV, e_andVT, e_andVF, e_orVT, e_orVF, e_NotV, e_notVK, e_If, e_ifT, e_ifF, e_Tup, e_Lst, e_LstF, e_tup0, e_lst0, e_lstF0, e_eqI, e_neI, e_ltI, e_leI, e_gtI, e_geI, e_lenL, e_lenT, e_lenR, e_lenS, e_ixL, e_ixT, at0, at1, at2, at3, e_tupL, e_tupT, e_lstT, e_Own, e_ownK, e_Sub, e_For, e_Items, e_itL, e_itT, e_itR, e_Call, e_CallF, e_aNil, e_aVal, e_aVK, e_aVK2, step0, step1, step2, step3, out0, out1, out2, out3, outX1, outX2, outO1, outO2, outO3, e_onSh, e_onOw, decide_true, decide_false, Bool.not_true, Bool.not_false, List.cons_append, List.nil_append, List.getElem?_cons_zero, List.getElem?_cons_succ, List.set_cons_zero, List.set_cons_succ, Nat.reduceLT, Nat.reduceAdd, Nat.reduceSub, Option.map_some, finF, outsE, e_frz, d_rng7, e_forK, e_tnN, e_tnC, e_tnB, e_tnR, e_whT, e_whF, e_Raise, e_Par, e_parK, e_parK2, e_augK, e_Ch, e_chK1, e_chK2, e_chT, e_chF, e_Try, e_tryO, e_tru, e_While, e_abs, e_max2, e_min2, e_gSq2, e_tup1, e_lst1, e_tup2, e_lst2, e_tup3, e_lst3, e_tup4, e_lst4, e_tup5, e_lst5, e_tup6, e_lst6, e_tup7, e_lst7, e_tup8, e_lst8, t_fld, t_eq, t_ne, t_len, t_is, t_itm, t_of, t_of2, t_lst, hc]
  | co w =>
    simp only [wordD] at hc
    simp only [startE, List.map, List.length, List.replicate, e_Seq, e_Asg, e_Ret, e_RetF, e_Expr, e_exprK, e_op, e_op2, e_op1, e_un, e_is, e_B, e_bK, e_Cons, e_consK, e_consK2, e_Nil, e_var, e_C, e_bind, e_bindX, e_bindB, e_lookS, e_lookO, M.toD, e_of, e_asgK, e_gSet, e_stK, e_sqN, e_sqR, e_sqB, e_sqC, e_sNil, e_retK, e_retFK, e_add, e_vI, e_neg, e_fInt, e_fIntB, e_sIf, e_sifT, e_sifF, e_T, e_toB, e_Tru, e_truB, e_And, e_Or, e_andT, e_andF, e_orT, e_orF, e_Not, e_notK, e_AndV, e_OrV, e_andVT, e_andVF, e_orVT, e_orVF, e_NotV, e_notVK, e_If, e_ifT, e_ifF, e_Tup, e_Lst, e_LstF, e_tup0, e_lst0, e_lstF0, e_eqI, e_neI, e_ltI, e_leI, e_gtI, e_geI, e_lenL, e_lenT, e_lenR, e_lenS, e_ixL, e_ixT, at0, at1, at2, at3, e_tupL, e_tupT, e_lstT, e_Own, e_ownK, e_Sub, e_For, e_Items, e_itL, e_itT, e_itR, e_Call, e_CallF, e_aNil, e_aVal, e_aVK, e_aVK2, step0, step1, step2, step3, out0, out1, out2, out3, outX1, outX2, outO1, outO2, outO3, e_onSh, e_onOw, decide_true, decide_false, Bool.not_true, Bool.not_false, List.cons_append, List.nil_append, List.getElem?_cons_zero, List.getElem?_cons_succ, List.set_cons_zero, List.set_cons_succ, Nat.reduceLT, Nat.reduceAdd, Nat.reduceSub, Option.map_some, finF, outsE, e_frz, d_rng7, e_forK, e_tnN, e_tnC, e_tnB, e_tnR, e_whT, e_whF, e_Raise, e_Par, e_parK, e_parK2, e_augK, e_Ch, e_chK1, e_chK2, e_chT, e_chF, e_Try, e_tryO, e_tru, e_While, e_abs, e_max2, e_min2, e_gSq2, e_tup1, e_lst1, e_tup2, e_lst2, e_tup3, e_lst3, e_tup4, e_lst4, e_tup5, e_lst5, e_tup6, e_lst6, e_tup7, e_lst7, e_tup8, e_lst8, Hop.d, s_cp] at hc ⊢
    simp only [startE, List.map, List.length, List.replicate, e_Seq, e_Asg, e_Ret, e_RetF, e_Expr, e_exprK, e_op, e_op2, e_op1, e_un, e_is, e_B, e_bK, e_Cons, e_consK, e_consK2, e_Nil, e_var, e_C, e_bind, e_bindX, e_bindB, e_lookS, e_lookO, M.toD, e_of, e_asgK, e_gSet, e_stK, e_sqN, e_sqR, e_sqB, e_sqC, e_sNil, e_retK, e_retFK, e_add, e_vI, e_neg, e_fInt, e_fIntB, e_sIf, e_sifT, e_sifF, e_T, e_toB, e_Tru, e_truB, e_And, e_Or, e_andT, e_andF, e_orT, e_orF, e_Not, e_notK, e_AndV, e_OrV, e_andVT, e_andVF, e_orVT, e_orVF, e_NotV, e_notVK, e_If, e_ifT, e_ifF, e_Tup, e_Lst, e_LstF, e_tup0, e_lst0, e_lstF0, e_eqI, e_neI, e_ltI, e_leI, e_gtI, e_geI, e_lenL, e_lenT, e_lenR, e_lenS, e_ixL, e_ixT, at0, at1, at2, at3, e_tupL, e_tupT, e_lstT, e_Own, e_ownK, e_Sub, e_For, e_Items, e_itL, e_itT, e_itR, e_Call, e_CallF, e_aNil, e_aVal, e_aVK, e_aVK2, step0, step1, step2, step3, out0, out1, out2, out3, outX1, outX2, outO1, outO2, outO3, e_onSh, e_onOw, decide_true, decide_false, Bool.not_true, Bool.not_false, List.cons_append, List.nil_append, List.getElem?_cons_zero, List.getElem?_cons_succ, List.set_cons_zero, List.set_cons_succ, Nat.reduceLT, Nat.reduceAdd, Nat.reduceSub, Option.map_some, finF, outsE, e_frz, d_rng7, e_forK, e_tnN, e_tnC, e_tnB, e_tnR, e_whT, e_whF, e_Raise, e_Par, e_parK, e_parK2, e_augK, e_Ch, e_chK1, e_chK2, e_chT, e_chF, e_Try, e_tryO, e_tru, e_While, e_abs, e_max2, e_min2, e_gSq2, e_tup1, e_lst1, e_tup2, e_lst2, e_tup3, e_lst3, e_tup4, e_lst4, e_tup5, e_lst5, e_tup6, e_lst6, e_tup7, e_lst7, e_tup8, e_lst8, t_fld, t_eq, t_ne, t_len, t_is, t_itm, t_of, t_of2, t_lst, hc]
  | la w =>
    simp only [wordD] at hc
    simp only [startE, List.map, List.length, List.replicate, e_Seq, e_Asg, e_Ret, e_RetF, e_Expr, e_exprK, e_op, e_op2, e_op1, e_un, e_is, e_B, e_bK, e_Cons, e_consK, e_consK2, e_Nil, e_var, e_C, e_bind, e_bindX, e_bindB, e_lookS, e_lookO, M.toD, e_of, e_asgK, e_gSet, e_stK, e_sqN, e_sqR, e_sqB, e_sqC, e_sNil, e_retK, e_retFK, e_add, e_vI, e_neg, e_fInt, e_fIntB, e_sIf, e_sifT, e_sifF, e_T, e_toB, e_Tru, e_truB, e_And, e_Or, e_andT, e_andF, e_orT, e_orF, e_Not, e_notK, e_AndV, e_OrV, e_andVT, e_andVF, e_orVT, e_orVF, e_NotV, e_notVK, e_If, e_ifT, e_ifF, e_Tup, e_Lst, e_LstF, e_tup0, e_lst0, e_lstF0, e_eqI, e_neI, e_ltI, e_leI, e_gtI, e_geI, e_lenL, e_lenT, e_lenR, e_lenS, e_ixL, e_ixT, at0, at1, at2, at3, e_tupL, e_tupT, e_lstT, e_Own, e_ownK, e_Sub, e_For, e_Items, e_itL, e_itT, e_itR, e_Call, e_CallF, e_aNil, e_aVal, e_aVK, e_aVK2, step0, step1, step2, step3, out0, out1, out2, out3, outX1, outX2, outO1, outO2, outO3, e_onSh, e_onOw, decide_true, decide_false, Bool.not_true, Bool.not_false, List.cons_append, List.nil_append, List.getElem?_cons_zero, List.getElem?_cons_succ, List.set_cons_zero, List.set_cons_succ, Nat.reduceLT, Nat.reduceAdd, Nat.reduceSub, Option.map_some, finF, outsE, e_frz, d_rng7, e_forK, e_tnN, e_tnC, e_tnB, e_tnR, e_whT, e_whF, e_Raise, e_Par, e_parK, e_parK2, e_augK, e_Ch, e_chK1, e_chK2, e_chT, e_chF, e_Try, e_tryO, e_tru, e_While, e_abs, e_max2, e_min2, e_gSq2, e_tup1, e_lst1, e_tup2, e_lst2, e_tup3, e_lst3, e_tup4, e_lst4, e_tup5, e_lst5, e_tup6, e_lst6, e_tup7, e_lst7, e_tup8, e_lst8, Hop.d, s_lp] at hc ⊢
    simp only [startE, List.map, List.length, List.replicate, e_Seq, e_Asg, e_Ret, e_RetF, e_Expr, e_exprK, e_op, e_op2, e_op1, e_un, e_is, e_B, e_bK, e_Cons, e_consK, e_consK2, e_Nil, e_var, e_C, e_bind, e_bindX, e_bindB, e_lookS, e_lookO, M.toD, e_of, e_asgK, e_gSet, e_stK, e_sqN, e_sqR, e_sqB, e_sqC, e_sNil, e_retK, e_retFK, e_add, e_vI, e_neg, e_fInt, e_fIntB, e_sIf, e_sifT, e_sifF, e_T, e_toB, e_Tru, e_truB, e_And, e_Or, e_andT, e_andF, e_orT, e_orF, e_Not, e_notK, e_AndV, e_OrV, e_andVT, e_andVF, e_orVT, e_orVF, e_NotV, e_notVK, e_If, e_ifT, e_ifF, e_Tup, e_Lst, e_LstF, e_tup0, e_lst0, e_lstF0, e_eqI, e_neI, e_ltI, e_leI, e_gtI, e_geI, e_lenL, e_lenT, e_lenR, e_lenS, e_ixL, e_ixT, at0, at1, at2, at3, e_tupL, e_tupT, e_lstT, e_Own, e_ownK, e_Sub, e_For, e_Items, e_itL, e_itT, e_itR, e_Call, e_CallF, e_aNil, e_aVal, e_aVK, e_aVK2, step0, step1, step2, step3, out0, out1, out2, out3, outX1, outX2, outO1, outO2, outO3, e_onSh, e_onOw, decide_true, decide_false, Bool.not_true, Bool.not_false, List.cons_append, List.nil_append, List.getElem?_cons_zero, List.getElem?_cons_succ, List.set_cons_zero, List.set_cons_succ, Nat.reduceLT, Nat.reduceAdd, Nat.reduceSub, Option.map_some, finF, outsE, e_frz, d_rng7, e_forK, e_tnN, e_tnC, e_tnB, e_tnR, e_whT, e_whF, e_Raise, e_Par, e_parK, e_parK2, e_augK, e_Ch, e_chK1, e_chK2, e_chT, e_chF, e_Try, e_tryO, e_tru, e_While, e_abs, e_max2, e_min2, e_gSq2, e_tup1, e_lst1, e_tup2, e_lst2, e_tup3, e_lst3, e_tup4, e_lst4, e_tup5, e_lst5, e_tup6, e_lst6, e_tup7, e_lst7, e_tup8, e_lst8, t_fld, t_eq, t_ne, t_len, t_is, t_itm, t_of, t_of2, t_lst, hc]
theorem hop_w {h : Hop} (hh : h.fit) : HopW h := by cases h <;> first | trivial | exact hh
/-! ### the fewest hops -/
theorem v30 (i : Int) : cDiv i 30 = true := cDiv_p (by decide) (by decide)
theorem up_ok (k : Int) : m__law_up [.sh (.int k)] = .ok (.sh (.int (up k))) [] := by
  refine (e_run [] 1 _ _ rfl).trans ?_
  unfold b__law_up
  simp only [startE, List.map, List.length, List.replicate, e_Seq, e_Asg, e_Ret, e_RetF, e_Expr, e_exprK, e_op, e_op2, e_op1, e_un, e_is, e_B, e_bK, e_Cons, e_consK, e_consK2, e_Nil, e_var, e_C, e_bind, e_bindX, e_bindB, e_lookS, e_lookO, M.toD, e_of, e_asgK, e_gSet, e_stK, e_sqN, e_sqR, e_sqB, e_sqC, e_sNil, e_retK, e_retFK, e_add, e_vI, e_neg, e_fInt, e_fIntB, e_sIf, e_sifT, e_sifF, e_T, e_toB, e_Tru, e_truB, e_And, e_Or, e_andT, e_andF, e_orT, e_orF, e_Not, e_notK, e_AndV, e_OrV, e_andVT, e_andVF, e_orVT, e_orVF, e_NotV, e_notVK, e_If, e_ifT, e_ifF, e_Tup, e_Lst, e_LstF, e_tup0, e_lst0, e_lstF0, e_eqI, e_neI, e_ltI, e_leI, e_gtI, e_geI, e_lenL, e_lenT, e_lenR, e_lenS, e_ixL, e_ixT, at0, at1, at2, at3, e_tupL, e_tupT, e_lstT, e_Own, e_ownK, e_Sub, e_For, e_Items, e_itL, e_itT, e_itR, e_Call, e_CallF, e_aNil, e_aVal, e_aVK, e_aVK2, step0, step1, step2, step3, out0, out1, out2, out3, outX1, outX2, outO1, outO2, outO3, e_onSh, e_onOw, decide_true, decide_false, Bool.not_true, Bool.not_false, List.cons_append, List.nil_append, List.getElem?_cons_zero, List.getElem?_cons_succ, List.set_cons_zero, List.set_cons_succ, Nat.reduceLT, Nat.reduceAdd, Nat.reduceSub, Option.map_some, finF, outsE, e_frz, d_rng7, e_forK, e_tnN, e_tnC, e_tnB, e_tnR, e_whT, e_whF, e_Raise, e_Par, e_parK, e_parK2, e_augK, e_Ch, e_chK1, e_chK2, e_chT, e_chF, e_Try, e_tryO, e_tru, e_While, e_abs, e_max2, e_min2, e_gSq2, e_tup1, e_lst1, e_tup2, e_lst2, e_tup3, e_lst3, e_tup4, e_lst4, e_tup5, e_lst5, e_tup6, e_lst6, e_tup7, e_lst7, e_tup8, e_lst8, e_vIc, v30, up]
theorem fewest_ok {s : Sh} {B : Int} (hs : s.fit B) : m__law_fewest [.sh (tupI s.lst)] = .ok (.sh (.int (few s))) [] := by
  have h1 := shape_ok hs
  refine (e_run [] 2 _ _ rfl).trans ?_
  unfold b__law_fewest
  cases s with
  | ev k => simp only [startE, List.map, List.length, List.replicate, e_Seq, e_Asg, e_Ret, e_RetF, e_Expr, e_exprK, e_op, e_op2, e_op1, e_un, e_is, e_B, e_bK, e_Cons, e_consK, e_consK2, e_Nil, e_var, e_C, e_bind, e_bindX, e_bindB, e_lookS, e_lookO, M.toD, e_of, e_asgK, e_gSet, e_stK, e_sqN, e_sqR, e_sqB, e_sqC, e_sNil, e_retK, e_retFK, e_add, e_vI, e_neg, e_fInt, e_fIntB, e_sIf, e_sifT, e_sifF, e_T, e_toB, e_Tru, e_truB, e_And, e_Or, e_andT, e_andF, e_orT, e_orF, e_Not, e_notK, e_AndV, e_OrV, e_andVT, e_andVF, e_orVT, e_orVF, e_NotV, e_notVK, e_If, e_ifT, e_ifF, e_Tup, e_Lst, e_LstF, e_tup0, e_lst0, e_lstF0, e_eqI, e_neI, e_ltI, e_leI, e_gtI, e_geI, e_lenL, e_lenT, e_lenR, e_lenS, e_ixL, e_ixT, at0, at1, at2, at3, e_tupL, e_tupT, e_lstT, e_Own, e_ownK, e_Sub, e_For, e_Items, e_itL, e_itT, e_itR, e_Call, e_CallF, e_aNil, e_aVal, e_aVK, e_aVK2, step0, step1, step2, step3, out0, out1, out2, out3, outX1, outX2, outO1, outO2, outO3, e_onSh, e_onOw, decide_true, decide_false, Bool.not_true, Bool.not_false, List.cons_append, List.nil_append, List.getElem?_cons_zero, List.getElem?_cons_succ, List.set_cons_zero, List.set_cons_succ, Nat.reduceLT, Nat.reduceAdd, Nat.reduceSub, Option.map_some, finF, outsE, e_frz, d_rng7, e_forK, e_tnN, e_tnC, e_tnB, e_tnR, e_whT, e_whF, e_Raise, e_Par, e_parK, e_parK2, e_augK, e_Ch, e_chK1, e_chK2, e_chT, e_chF, e_Try, e_tryO, e_tru, e_While, e_abs, e_max2, e_min2, e_gSq2, e_tup1, e_lst1, e_tup2, e_lst2, e_tup3, e_lst3, e_tup4, e_lst4, e_tup5, e_lst5, e_tup6, e_lst6, e_tup7, e_lst7, e_tup8, e_lst8, h1, Sh.d, evenD, s_ee, up_ok, few]
  | sw w m => simp only [startE, List.map, List.length, List.replicate, e_Seq, e_Asg, e_Ret, e_RetF, e_Expr, e_exprK, e_op, e_op2, e_op1, e_un, e_is, e_B, e_bK, e_Cons, e_consK, e_consK2, e_Nil, e_var, e_C, e_bind, e_bindX, e_bindB, e_lookS, e_lookO, M.toD, e_of, e_asgK, e_gSet, e_stK, e_sqN, e_sqR, e_sqB, e_sqC, e_sNil, e_retK, e_retFK, e_add, e_vI, e_neg, e_fInt, e_fIntB, e_sIf, e_sifT, e_sifF, e_T, e_toB, e_Tru, e_truB, e_And, e_Or, e_andT, e_andF, e_orT, e_orF, e_Not, e_notK, e_AndV, e_OrV, e_andVT, e_andVF, e_orVT, e_orVF, e_NotV, e_notVK, e_If, e_ifT, e_ifF, e_Tup, e_Lst, e_LstF, e_tup0, e_lst0, e_lstF0, e_eqI, e_neI, e_ltI, e_leI, e_gtI, e_geI, e_lenL, e_lenT, e_lenR, e_lenS, e_ixL, e_ixT, at0, at1, at2, at3, e_tupL, e_tupT, e_lstT, e_Own, e_ownK, e_Sub, e_For, e_Items, e_itL, e_itT, e_itR, e_Call, e_CallF, e_aNil, e_aVal, e_aVK, e_aVK2, step0, step1, step2, step3, out0, out1, out2, out3, outX1, outX2, outO1, outO2, outO3, e_onSh, e_onOw, decide_true, decide_false, Bool.not_true, Bool.not_false, List.cons_append, List.nil_append, List.getElem?_cons_zero, List.getElem?_cons_succ, List.set_cons_zero, List.set_cons_succ, Nat.reduceLT, Nat.reduceAdd, Nat.reduceSub, Option.map_some, finF, outsE, e_frz, d_rng7, e_forK, e_tnN, e_tnC, e_tnB, e_tnR, e_whT, e_whF, e_Raise, e_Par, e_parK, e_parK2, e_augK, e_Ch, e_chK1, e_chK2, e_chT, e_chF, e_Try, e_tryO, e_tru, e_While, e_abs, e_max2, e_min2, e_gSq2, e_tup1, e_lst1, e_tup2, e_lst2, e_tup3, e_lst3, e_tup4, e_lst4, e_tup5, e_lst5, e_tup6, e_lst6, e_tup7, e_lst7, e_tup8, e_lst8, h1, Sh.d, sawD, s_se, up_ok, few]
theorem is_hop_ok {h : Hop} (hh : h.fit) : m__law_is_hop [.sh h.d] = .ok (.sh (.bl true)) [] := by
  have n2 : (((2 : Nat) : Int) == 2) = true := by decide
  have ht : ∀ a b : D, isTy "tuple" (.tup [a, b]) = some true := fun a b => rfl
  have hl : ∀ a b : D, (([a, b] : List D).length : Int) = 2 := fun a b => rfl
  refine (e_run [] 1 _ _ rfl).trans ?_
  unfold b__law_is_hop
  cases h with
  | pl k =>
    obtain ⟨h0, h6⟩ := hh
    simp only [startE, List.map, List.length, List.replicate, e_Seq, e_Asg, e_Ret, e_RetF, e_Expr, e_exprK, e_op, e_op2, e_op1, e_un, e_is, e_B, e_bK, e_Cons, e_consK, e_consK2, e_Nil, e_var, e_C, e_bind, e_bindX, e_bindB, e_lookS, e_lookO, M.toD, e_of, e_asgK, e_gSet, e_stK, e_sqN, e_sqR, e_sqB, e_sqC, e_sNil, e_retK, e_retFK, e_add, e_vI, e_neg, e_fInt, e_fIntB, e_sIf, e_sifT, e_sifF, e_T, e_toB, e_Tru, e_truB, e_And, e_Or, e_andT, e_andF, e_orT, e_orF, e_Not, e_notK, e_AndV, e_OrV, e_andVT, e_andVF, e_orVT, e_orVF, e_NotV, e_notVK, e_If, e_ifT, e_ifF, e_Tup, e_Lst, e_LstF, e_tup0, e_lst0, e_lstF0, e_eqI, e_neI, e_ltI, e_leI, e_gtI, e_geI, e_lenL, e_lenT, e_lenR, e_lenS, e_ixL, e_ixT, at0, at1, at2, at3, e_tupL, e_tupT, e_lstT, e_Own, e_ownK, e_Sub, e_For, e_Items, e_itL, e_itT, e_itR, e_Call, e_CallF, e_aNil, e_aVal, e_aVK, e_aVK2, step0, step1, step2, step3, out0, out1, out2, out3, outX1, outX2, outO1, outO2, outO3, e_onSh, e_onOw, decide_true, decide_false, Bool.not_true, Bool.not_false, List.cons_append, List.nil_append, List.getElem?_cons_zero, List.getElem?_cons_succ, List.set_cons_zero, List.set_cons_succ, Nat.reduceLT, Nat.reduceAdd, Nat.reduceSub, Option.map_some, finF, outsE, e_frz, d_rng7, e_forK, e_tnN, e_tnC, e_tnB, e_tnR, e_whT, e_whF, e_Raise, e_Par, e_parK, e_parK2, e_augK, e_Ch, e_chK1, e_chK2, e_chT, e_chF, e_Try, e_tryO, e_tru, e_While, e_abs, e_max2, e_min2, e_gSq2, e_tup1, e_lst1, e_tup2, e_lst2, e_tup3, e_lst3, e_tup4, e_lst4, e_tup5, e_lst5, e_tup6, e_lst6, e_tup7, e_lst7, e_tup8, e_lst8, Hop.d, ht, n2, whole_ok, s_pp, h0, h6, Int.reduceNeg, Int.cast_ofNat_Int, beq_self_eq_true]
  | co w =>
    obtain ⟨h0, h6⟩ := hh
    simp only [startE, List.map, List.length, List.replicate, e_Seq, e_Asg, e_Ret, e_RetF, e_Expr, e_exprK, e_op, e_op2, e_op1, e_un, e_is, e_B, e_bK, e_Cons, e_consK, e_consK2, e_Nil, e_var, e_C, e_bind, e_bindX, e_bindB, e_lookS, e_lookO, M.toD, e_of, e_asgK, e_gSet, e_stK, e_sqN, e_sqR, e_sqB, e_sqC, e_sNil, e_retK, e_retFK, e_add, e_vI, e_neg, e_fInt, e_fIntB, e_sIf, e_sifT, e_sifF, e_T, e_toB, e_Tru, e_truB, e_And, e_Or, e_andT, e_andF, e_orT, e_orF, e_Not, e_notK, e_AndV, e_OrV, e_andVT, e_andVF, e_orVT, e_orVF, e_NotV, e_notVK, e_If, e_ifT, e_ifF, e_Tup, e_Lst, e_LstF, e_tup0, e_lst0, e_lstF0, e_eqI, e_neI, e_ltI, e_leI, e_gtI, e_geI, e_lenL, e_lenT, e_lenR, e_lenS, e_ixL, e_ixT, at0, at1, at2, at3, e_tupL, e_tupT, e_lstT, e_Own, e_ownK, e_Sub, e_For, e_Items, e_itL, e_itT, e_itR, e_Call, e_CallF, e_aNil, e_aVal, e_aVK, e_aVK2, step0, step1, step2, step3, out0, out1, out2, out3, outX1, outX2, outO1, outO2, outO3, e_onSh, e_onOw, decide_true, decide_false, Bool.not_true, Bool.not_false, List.cons_append, List.nil_append, List.getElem?_cons_zero, List.getElem?_cons_succ, List.set_cons_zero, List.set_cons_succ, Nat.reduceLT, Nat.reduceAdd, Nat.reduceSub, Option.map_some, finF, outsE, e_frz, d_rng7, e_forK, e_tnN, e_tnC, e_tnB, e_tnR, e_whT, e_whF, e_Raise, e_Par, e_parK, e_parK2, e_augK, e_Ch, e_chK1, e_chK2, e_chT, e_chF, e_Try, e_tryO, e_tru, e_While, e_abs, e_max2, e_min2, e_gSq2, e_tup1, e_lst1, e_tup2, e_lst2, e_tup3, e_lst3, e_tup4, e_lst4, e_tup5, e_lst5, e_tup6, e_lst6, e_tup7, e_lst7, e_tup8, e_lst8, Hop.d, ht, n2, whole_ok, s_cp, i_c, h0, h6, Int.cast_ofNat_Int, beq_self_eq_true]
  | la w =>
    obtain ⟨h0, h6⟩ := hh
    simp only [startE, List.map, List.length, List.replicate, e_Seq, e_Asg, e_Ret, e_RetF, e_Expr, e_exprK, e_op, e_op2, e_op1, e_un, e_is, e_B, e_bK, e_Cons, e_consK, e_consK2, e_Nil, e_var, e_C, e_bind, e_bindX, e_bindB, e_lookS, e_lookO, M.toD, e_of, e_asgK, e_gSet, e_stK, e_sqN, e_sqR, e_sqB, e_sqC, e_sNil, e_retK, e_retFK, e_add, e_vI, e_neg, e_fInt, e_fIntB, e_sIf, e_sifT, e_sifF, e_T, e_toB, e_Tru, e_truB, e_And, e_Or, e_andT, e_andF, e_orT, e_orF, e_Not, e_notK, e_AndV, e_OrV, e_andVT, e_andVF, e_orVT, e_orVF, e_NotV, e_notVK, e_If, e_ifT, e_ifF, e_Tup, e_Lst, e_LstF, e_tup0, e_lst0, e_lstF0, e_eqI, e_neI, e_ltI, e_leI, e_gtI, e_geI, e_lenL, e_lenT, e_lenR, e_lenS, e_ixL, e_ixT, at0, at1, at2, at3, e_tupL, e_tupT, e_lstT, e_Own, e_ownK, e_Sub, e_For, e_Items, e_itL, e_itT, e_itR, e_Call, e_CallF, e_aNil, e_aVal, e_aVK, e_aVK2, step0, step1, step2, step3, out0, out1, out2, out3, outX1, outX2, outO1, outO2, outO3, e_onSh, e_onOw, decide_true, decide_false, Bool.not_true, Bool.not_false, List.cons_append, List.nil_append, List.getElem?_cons_zero, List.getElem?_cons_succ, List.set_cons_zero, List.set_cons_succ, Nat.reduceLT, Nat.reduceAdd, Nat.reduceSub, Option.map_some, finF, outsE, e_frz, d_rng7, e_forK, e_tnN, e_tnC, e_tnB, e_tnR, e_whT, e_whF, e_Raise, e_Par, e_parK, e_parK2, e_augK, e_Ch, e_chK1, e_chK2, e_chT, e_chF, e_Try, e_tryO, e_tru, e_While, e_abs, e_max2, e_min2, e_gSq2, e_tup1, e_lst1, e_tup2, e_lst2, e_tup3, e_lst3, e_tup4, e_lst4, e_tup5, e_lst5, e_tup6, e_lst6, e_tup7, e_lst7, e_tup8, e_lst8, Hop.d, ht, n2, whole_ok, s_lp, i_l, h0, h6, Int.cast_ofNat_Int, beq_self_eq_true]
theorem good_loop (p q : Option DV) : ∀ (hs : List Hop) (s : Sh) (B : Int) (x : Option DV), s.fit B → (∀ h ∈ hs, h.fit) → ∃ y, forL (gSet 3) (sSeq (sIf (dNot (dTru (dCall m__law_is_hop (aVal (dVar 3) (aNil))))) (sRet (dC (.bl false))) (sNil))
  (sAsg (dCall m__law_hopped (aVal (dVar 2) (aVal (dVar 3) (aNil)))) (gSet 2))) (hs.map Hop.d) [p, q, some (.sh (tupI s.lst)), x] = .ok .nx [p, q, some (.sh (tupI (hs.foldl Sh.hop s).lst)), y]
  | [], s, B, x, _, _ => ⟨x, rfl⟩
  | h :: hs, s, B, x, hf, hh => by
    have h1 := hh h List.mem_cons_self
    obtain ⟨y, hy⟩ := good_loop p q hs (s.hop h) (B + 30) (some (.sh h.d)) (hop_fit hf h1) (fun g hg => hh g (List.mem_cons_of_mem _ hg))
    refine ⟨y, ?_⟩
    rw [List.foldl_cons]
    rw [← hy]
    simp only [startE, List.map, List.length, List.replicate, e_Seq, e_Asg, e_Ret, e_RetF, e_Expr, e_exprK, e_op, e_op2, e_op1, e_un, e_is, e_B, e_bK, e_Cons, e_consK, e_consK2, e_Nil, e_var, e_C, e_bind, e_bindX, e_bindB, e_lookS, e_lookO, M.toD, e_of, e_asgK, e_gSet, e_stK, e_sqN, e_sqR, e_sqB, e_sqC, e_sNil, e_retK, e_retFK, e_add, e_vI, e_neg, e_fInt, e_fIntB, e_sIf, e_sifT, e_sifF, e_T, e_toB, e_Tru, e_truB, e_And, e_Or, e_andT, e_andF, e_orT, e_orF, e_Not, e_notK, e_AndV, e_OrV, e_andVT, e_andVF, e_orVT, e_orVF, e_NotV, e_notVK, e_If, e_ifT, e_ifF, e_Tup, e_Lst, e_LstF, e_tup0, e_lst0, e_lstF0, e_eqI, e_neI, e_ltI, e_leI, e_gtI, e_geI, e_lenL, e_lenT, e_lenR, e_lenS, e_ixL, e_ixT, at0, at1, at2, at3, e_tupL, e_tupT, e_lstT, e_Own, e_ownK, e_Sub, e_For, e_Items, e_itL, e_itT, e_itR, e_Call, e_CallF, e_aNil, e_aVal, e_aVK, e_aVK2, step0, step1, step2, step3, out0, out1, out2, out3, outX1, outX2, outO1, outO2, outO3, e_onSh, e_onOw, decide_true, decide_false, Bool.not_true, Bool.not_false, List.cons_append, List.nil_append, List.getElem?_cons_zero, List.getElem?_cons_succ, List.set_cons_zero, List.set_cons_succ, Nat.reduceLT, Nat.reduceAdd, Nat.reduceSub, Option.map_some, finF, outsE, e_frz, d_rng7, e_forK, e_tnN, e_tnC, e_tnB, e_tnR, e_whT, e_whF, e_Raise, e_Par, e_parK, e_parK2, e_augK, e_Ch, e_chK1, e_chK2, e_chT, e_chF, e_Try, e_tryO, e_tru, e_While, e_abs, e_max2, e_min2, e_gSq2, e_tup1, e_lst1, e_tup2, e_lst2, e_tup3, e_lst3, e_tup4, e_lst4, e_tup5, e_lst5, e_tup6, e_lst6, e_tup7, e_lst7, e_tup8, e_lst8, forL_set, is_hop_ok h1, hopped_ok hf (hop_w h1)]
theorem good_ok {s : Sh} (hs : s.fit 4000) : m__law_good_hops [.sh (tupI s.lst), .sh (.tup ((least s).map Hop.d))] = .ok (.sh (.bl true)) [] := by
  obtain ⟨y, hy⟩ := good_loop (some (.sh (tupI s.lst))) (some (.sh (.tup ((least s).map Hop.d)))) (least s) (.ev 0) 0 none ⟨by decide, by decide⟩ (least_fit hs)
  rw [least_sum hs] at hy
  have hl : (((least s).map Hop.d).length : Int) = few s := by rw [List.length_map]; exact least_len hs
  have ht : ∀ l : List D, isTy "tuple" (.tup l) = some true := fun l => rfl
  rw [show (Sh.ev 0).lst = evens 0 from rfl] at hy
  refine (e_run [] 4 _ _ rfl).trans ?_
  unfold b__law_good_hops
  generalize hz : (least s).map Hop.d = z at hl hy
  simp only [startE, List.map, List.length, List.replicate, e_Seq, e_Asg, e_Ret, e_RetF, e_Expr, e_exprK, e_op, e_op2, e_op1, e_un, e_is, e_B, e_bK, e_Cons, e_consK, e_consK2, e_Nil, e_var, e_C, e_bind, e_bindX, e_bindB, e_lookS, e_lookO, M.toD, e_of, e_asgK, e_gSet, e_stK, e_sqN, e_sqR, e_sqB, e_sqC, e_sNil, e_retK, e_retFK, e_add, e_vI, e_neg, e_fInt, e_fIntB, e_sIf, e_sifT, e_sifF, e_T, e_toB, e_Tru, e_truB, e_And, e_Or, e_andT, e_andF, e_orT, e_orF, e_Not, e_notK, e_AndV, e_OrV, e_andVT, e_andVF, e_orVT, e_orVF, e_NotV, e_notVK, e_If, e_ifT, e_ifF, e_Tup, e_Lst, e_LstF, e_tup0, e_lst0, e_lstF0, e_eqI, e_neI, e_ltI, e_leI, e_gtI, e_geI, e_lenL, e_lenT, e_lenR, e_lenS, e_ixL, e_ixT, at0, at1, at2, at3, e_tupL, e_tupT, e_lstT, e_Own, e_ownK, e_Sub, e_For, e_Items, e_itL, e_itT, e_itR, e_Call, e_CallF, e_aNil, e_aVal, e_aVK, e_aVK2, step0, step1, step2, step3, out0, out1, out2, out3, outX1, outX2, outO1, outO2, outO3, e_onSh, e_onOw, decide_true, decide_false, Bool.not_true, Bool.not_false, List.cons_append, List.nil_append, List.getElem?_cons_zero, List.getElem?_cons_succ, List.set_cons_zero, List.set_cons_succ, Nat.reduceLT, Nat.reduceAdd, Nat.reduceSub, Option.map_some, finF, outsE, e_frz, d_rng7, e_forK, e_tnN, e_tnC, e_tnB, e_tnR, e_whT, e_whF, e_Raise, e_Par, e_parK, e_parK2, e_augK, e_Ch, e_chK1, e_chK2, e_chT, e_chF, e_Try, e_tryO, e_tru, e_While, e_abs, e_max2, e_min2, e_gSq2, e_tup1, e_lst1, e_tup2, e_lst2, e_tup3, e_lst3, e_tup4, e_lst4, e_tup5, e_lst5, e_tup6, e_lst6, e_tup7, e_lst7, e_tup8, e_lst8, t_fld, t_eq, t_ne, t_len, t_is, t_itm, t_of, t_of2, t_lst, ht, hl, fewest_ok hs, beq_self_eq_true, even_ok, hy]
/-! ### a number in hops, in the program -/
theorem plus_loop (p : Option DV) : ∀ (n : Nat) (k : Int) (acc : List D) (o : Option DV) (fu : Nat), n + 1 ≤ fu → up k ≤ n → acc.length + n ≤ sizeLine → ∃ o', whileF (dT (dCmp .ne (dVar 2) (dC (.int 0)))) (sSeq (sAsg (dB fMax (dCons (dNeg (dC g_MOST_PLUS)) (dCons (dB fMin (dCons (dC g_MOST_PLUS) (dCons (dVar 2) (dNil)))) (dNil)))) (gSet 3))
  (sSeq (sApp 1 (dTup (dCons (dC (.str "plus")) (dCons (dVar 3) (dNil)))))
  (sAug 2 (fun i j => i - j) (dVar 3)))) fu [p, some (.ow (.lst acc)), some (.sh (.int k)), o] = .ok .nx [p, some (.ow (.lst (acc ++ (chops n k).map fun x => (Hop.pl x).d))), some (.sh (.int 0)), o'] := by
  intro n
  induction n with
  | zero =>
    intro k acc o fu hf hu hz
    obtain ⟨f, rfl⟩ : ∃ f, fu = f + 1 := ⟨fu - 1, by omega⟩
    have hk : k = 0 := Decidable.byContradiction fun e => by have := up_pos k e; omega
    subst hk
    refine ⟨o, ?_⟩
    simp only [startE, List.map, List.length, List.replicate, e_Seq, e_Asg, e_Ret, e_RetF, e_Expr, e_exprK, e_op, e_op2, e_op1, e_un, e_is, e_B, e_bK, e_Cons, e_consK, e_consK2, e_Nil, e_var, e_C, e_bind, e_bindX, e_bindB, e_lookS, e_lookO, M.toD, e_of, e_asgK, e_gSet, e_stK, e_sqN, e_sqR, e_sqB, e_sqC, e_sNil, e_retK, e_retFK, e_add, e_vI, e_neg, e_fInt, e_fIntB, e_sIf, e_sifT, e_sifF, e_T, e_toB, e_Tru, e_truB, e_And, e_Or, e_andT, e_andF, e_orT, e_orF, e_Not, e_notK, e_AndV, e_OrV, e_andVT, e_andVF, e_orVT, e_orVF, e_NotV, e_notVK, e_If, e_ifT, e_ifF, e_Tup, e_Lst, e_LstF, e_tup0, e_lst0, e_lstF0, e_eqI, e_neI, e_ltI, e_leI, e_gtI, e_geI, e_lenL, e_lenT, e_lenR, e_lenS, e_ixL, e_ixT, at0, at1, at2, at3, e_tupL, e_tupT, e_lstT, e_Own, e_ownK, e_Sub, e_For, e_Items, e_itL, e_itT, e_itR, e_Call, e_CallF, e_aNil, e_aVal, e_aVK, e_aVK2, step0, step1, step2, step3, out0, out1, out2, out3, outX1, outX2, outO1, outO2, outO3, e_onSh, e_onOw, decide_true, decide_false, Bool.not_true, Bool.not_false, List.cons_append, List.nil_append, List.getElem?_cons_zero, List.getElem?_cons_succ, List.set_cons_zero, List.set_cons_succ, Nat.reduceLT, Nat.reduceAdd, Nat.reduceSub, Option.map_some, finF, outsE, e_frz, d_rng7, e_forK, e_tnN, e_tnC, e_tnB, e_tnR, e_whT, e_whF, e_Raise, e_Par, e_parK, e_parK2, e_augK, e_Ch, e_chK1, e_chK2, e_chT, e_chF, e_Try, e_tryO, e_tru, e_While, e_abs, e_max2, e_min2, e_gSq2, e_tup1, e_lst1, e_tup2, e_lst2, e_tup3, e_lst3, e_tup4, e_lst4, e_tup5, e_lst5, e_tup6, e_lst6, e_tup7, e_lst7, e_tup8, e_lst8, whileF_succ, beq_self_eq_true, chops, List.append_nil]
  | succ n ih =>
    intro k acc o fu hf hu hz
    obtain ⟨f, rfl⟩ : ∃ f, fu = f + 1 := ⟨fu - 1, by omega⟩
    by_cases hk : k = 0
    · subst hk
      refine ⟨o, ?_⟩
      simp only [startE, List.map, List.length, List.replicate, e_Seq, e_Asg, e_Ret, e_RetF, e_Expr, e_exprK, e_op, e_op2, e_op1, e_un, e_is, e_B, e_bK, e_Cons, e_consK, e_consK2, e_Nil, e_var, e_C, e_bind, e_bindX, e_bindB, e_lookS, e_lookO, M.toD, e_of, e_asgK, e_gSet, e_stK, e_sqN, e_sqR, e_sqB, e_sqC, e_sNil, e_retK, e_retFK, e_add, e_vI, e_neg, e_fInt, e_fIntB, e_sIf, e_sifT, e_sifF, e_T, e_toB, e_Tru, e_truB, e_And, e_Or, e_andT, e_andF, e_orT, e_orF, e_Not, e_notK, e_AndV, e_OrV, e_andVT, e_andVF, e_orVT, e_orVF, e_NotV, e_notVK, e_If, e_ifT, e_ifF, e_Tup, e_Lst, e_LstF, e_tup0, e_lst0, e_lstF0, e_eqI, e_neI, e_ltI, e_leI, e_gtI, e_geI, e_lenL, e_lenT, e_lenR, e_lenS, e_ixL, e_ixT, at0, at1, at2, at3, e_tupL, e_tupT, e_lstT, e_Own, e_ownK, e_Sub, e_For, e_Items, e_itL, e_itT, e_itR, e_Call, e_CallF, e_aNil, e_aVal, e_aVK, e_aVK2, step0, step1, step2, step3, out0, out1, out2, out3, outX1, outX2, outO1, outO2, outO3, e_onSh, e_onOw, decide_true, decide_false, Bool.not_true, Bool.not_false, List.cons_append, List.nil_append, List.getElem?_cons_zero, List.getElem?_cons_succ, List.set_cons_zero, List.set_cons_succ, Nat.reduceLT, Nat.reduceAdd, Nat.reduceSub, Option.map_some, finF, outsE, e_frz, d_rng7, e_forK, e_tnN, e_tnC, e_tnB, e_tnR, e_whT, e_whF, e_Raise, e_Par, e_parK, e_parK2, e_augK, e_Ch, e_chK1, e_chK2, e_chT, e_chF, e_Try, e_tryO, e_tru, e_While, e_abs, e_max2, e_min2, e_gSq2, e_tup1, e_lst1, e_tup2, e_lst2, e_tup3, e_lst3, e_tup4, e_lst4, e_tup5, e_lst5, e_tup6, e_lst6, e_tup7, e_lst7, e_tup8, e_lst8, whileF_succ, beq_self_eq_true, chops, if_true, List.append_nil]
    · have hb : (k == 0) = false := beq_false_of_ne hk
      have hs := stp_up k hk
      obtain ⟨o', h⟩ := ih (k - stp k) (acc ++ [(Hop.pl (stp k)).d]) (some (.sh (.int (stp k)))) f (by omega) (by omega) (by rw [List.length_append]; simp only [List.length_cons, List.length_nil]; omega)
      refine ⟨o', ?_⟩
      rw [show chops (n + 1) k = stp k :: chops n (k - stp k) by rw [chops, if_neg hk], show acc ++ (stp k :: chops n (k - stp k)).map (fun x => (Hop.pl x).d) = (acc ++ [(Hop.pl (stp k)).d]) ++ (chops n (k - stp k)).map (fun x => (Hop.pl x).d) by simp, ← h, whileF_succ]
      have hacc : acc.length < sizeLine := by omega
      have hstp : (if (if k < 30 then k else 30) > -30 then (if k < 30 then k else 30) else -30) = stp k := rfl
      simp only [startE, List.map, List.length, List.replicate, e_Seq, e_Asg, e_Ret, e_RetF, e_Expr, e_exprK, e_op, e_op2, e_op1, e_un, e_is, e_B, e_bK, e_Cons, e_consK, e_consK2, e_Nil, e_var, e_C, e_bind, e_bindX, e_bindB, e_lookS, e_lookO, M.toD, e_of, e_asgK, e_gSet, e_stK, e_sqN, e_sqR, e_sqB, e_sqC, e_sNil, e_retK, e_retFK, e_add, e_vI, e_neg, e_fInt, e_fIntB, e_sIf, e_sifT, e_sifF, e_T, e_toB, e_Tru, e_truB, e_And, e_Or, e_andT, e_andF, e_orT, e_orF, e_Not, e_notK, e_AndV, e_OrV, e_andVT, e_andVF, e_orVT, e_orVF, e_NotV, e_notVK, e_If, e_ifT, e_ifF, e_Tup, e_Lst, e_LstF, e_tup0, e_lst0, e_lstF0, e_eqI, e_neI, e_ltI, e_leI, e_gtI, e_geI, e_lenL, e_lenT, e_lenR, e_lenS, e_ixL, e_ixT, at0, at1, at2, at3, e_tupL, e_tupT, e_lstT, e_Own, e_ownK, e_Sub, e_For, e_Items, e_itL, e_itT, e_itR, e_Call, e_CallF, e_aNil, e_aVal, e_aVK, e_aVK2, step0, step1, step2, step3, out0, out1, out2, out3, outX1, outX2, outO1, outO2, outO3, e_onSh, e_onOw, decide_true, decide_false, Bool.not_true, Bool.not_false, List.cons_append, List.nil_append, List.getElem?_cons_zero, List.getElem?_cons_succ, List.set_cons_zero, List.set_cons_succ, Nat.reduceLT, Nat.reduceAdd, Nat.reduceSub, Option.map_some, finF, outsE, e_frz, d_rng7, e_forK, e_tnN, e_tnC, e_tnB, e_tnR, e_whT, e_whF, e_Raise, e_Par, e_parK, e_parK2, e_augK, e_Ch, e_chK1, e_chK2, e_chT, e_chF, e_Try, e_tryO, e_tru, e_While, e_abs, e_max2, e_min2, e_gSq2, e_tup1, e_lst1, e_tup2, e_lst2, e_tup3, e_lst3, e_tup4, e_lst4, e_tup5, e_lst5, e_tup6, e_lst6, e_tup7, e_lst7, e_tup8, e_lst8, g_MOST_PLUS, hb, hstp, Hop.d, e_App (ds := acc), e_appK (ds := acc), hacc, e_Aug (a := k), List.length_cons, List.length_nil]
theorem pluses_ok (k : Int) (h : -5000 ≤ k ∧ k ≤ 5000) : m_pluses_to [.sh (.int k)] = .ok (.sh (.tup ((chops 200 k).map fun x => (Hop.pl x).d))) [] := by
  obtain ⟨o, hw⟩ := plus_loop (some (.sh (.int k))) 200 k [] none FUEL (by decide) (by have := up_le k 167 (by omega) (by omega); omega) (by rw [sizeLine_eq]; decide)
  rw [List.nil_append] at hw
  refine (e_run [] 4 _ _ rfl).trans ?_
  unfold b_pluses_to
  simp only [startE, List.map, List.length, List.replicate, e_Seq, e_Asg, e_Ret, e_RetF, e_Expr, e_exprK, e_op, e_op2, e_op1, e_un, e_is, e_B, e_bK, e_Cons, e_consK, e_consK2, e_Nil, e_var, e_C, e_bind, e_bindX, e_bindB, e_lookS, e_lookO, M.toD, e_of, e_asgK, e_gSet, e_stK, e_sqN, e_sqR, e_sqB, e_sqC, e_sNil, e_retK, e_retFK, e_add, e_vI, e_neg, e_fInt, e_fIntB, e_sIf, e_sifT, e_sifF, e_T, e_toB, e_Tru, e_truB, e_And, e_Or, e_andT, e_andF, e_orT, e_orF, e_Not, e_notK, e_AndV, e_OrV, e_andVT, e_andVF, e_orVT, e_orVF, e_NotV, e_notVK, e_If, e_ifT, e_ifF, e_Tup, e_Lst, e_LstF, e_tup0, e_lst0, e_lstF0, e_eqI, e_neI, e_ltI, e_leI, e_gtI, e_geI, e_lenL, e_lenT, e_lenR, e_lenS, e_ixL, e_ixT, at0, at1, at2, at3, e_tupL, e_tupT, e_lstT, e_Own, e_ownK, e_Sub, e_For, e_Items, e_itL, e_itT, e_itR, e_Call, e_CallF, e_aNil, e_aVal, e_aVK, e_aVK2, step0, step1, step2, step3, out0, out1, out2, out3, outX1, outX2, outO1, outO2, outO3, e_onSh, e_onOw, decide_true, decide_false, Bool.not_true, Bool.not_false, List.cons_append, List.nil_append, List.getElem?_cons_zero, List.getElem?_cons_succ, List.set_cons_zero, List.set_cons_succ, Nat.reduceLT, Nat.reduceAdd, Nat.reduceSub, Option.map_some, finF, outsE, e_frz, d_rng7, e_forK, e_tnN, e_tnC, e_tnB, e_tnR, e_whT, e_whF, e_Raise, e_Par, e_parK, e_parK2, e_augK, e_Ch, e_chK1, e_chK2, e_chT, e_chF, e_Try, e_tryO, e_tru, e_While, e_abs, e_max2, e_min2, e_gSq2, e_tup1, e_lst1, e_tup2, e_lst2, e_tup3, e_lst3, e_tup4, e_lst4, e_tup5, e_lst5, e_tup6, e_lst6, e_tup7, e_lst7, e_tup8, e_lst8, hw]
theorem least_ok {s : Sh} (h : s.fit 4000) : m_least_hops [.sh (tupI s.lst)] = .ok (.sh (.tup ((least s).map Hop.d))) [] := by
  have h1 := shape2_ok h
  refine (e_run [] 4 _ _ rfl).trans ?_
  unfold b_least_hops
  cases s with
  | ev k =>
    obtain ⟨a, b⟩ := h
    simp only [startE, List.map, List.length, List.replicate, e_Seq, e_Asg, e_Ret, e_RetF, e_Expr, e_exprK, e_op, e_op2, e_op1, e_un, e_is, e_B, e_bK, e_Cons, e_consK, e_consK2, e_Nil, e_var, e_C, e_bind, e_bindX, e_bindB, e_lookS, e_lookO, M.toD, e_of, e_asgK, e_gSet, e_stK, e_sqN, e_sqR, e_sqB, e_sqC, e_sNil, e_retK, e_retFK, e_add, e_vI, e_neg, e_fInt, e_fIntB, e_sIf, e_sifT, e_sifF, e_T, e_toB, e_Tru, e_truB, e_And, e_Or, e_andT, e_andF, e_orT, e_orF, e_Not, e_notK, e_AndV, e_OrV, e_andVT, e_andVF, e_orVT, e_orVF, e_NotV, e_notVK, e_If, e_ifT, e_ifF, e_Tup, e_Lst, e_LstF, e_tup0, e_lst0, e_lstF0, e_eqI, e_neI, e_ltI, e_leI, e_gtI, e_geI, e_lenL, e_lenT, e_lenR, e_lenS, e_ixL, e_ixT, at0, at1, at2, at3, e_tupL, e_tupT, e_lstT, e_Own, e_ownK, e_Sub, e_For, e_Items, e_itL, e_itT, e_itR, e_Call, e_CallF, e_aNil, e_aVal, e_aVK, e_aVK2, step0, step1, step2, step3, out0, out1, out2, out3, outX1, outX2, outO1, outO2, outO3, e_onSh, e_onOw, decide_true, decide_false, Bool.not_true, Bool.not_false, List.cons_append, List.nil_append, List.getElem?_cons_zero, List.getElem?_cons_succ, List.set_cons_zero, List.set_cons_succ, Nat.reduceLT, Nat.reduceAdd, Nat.reduceSub, Option.map_some, finF, outsE, e_frz, d_rng7, e_forK, e_tnN, e_tnC, e_tnB, e_tnR, e_whT, e_whF, e_Raise, e_Par, e_parK, e_parK2, e_augK, e_Ch, e_chK1, e_chK2, e_chT, e_chF, e_Try, e_tryO, e_tru, e_While, e_abs, e_max2, e_min2, e_gSq2, e_tup1, e_lst1, e_tup2, e_lst2, e_tup3, e_lst3, e_tup4, e_lst4, e_tup5, e_lst5, e_tup6, e_lst6, e_tup7, e_lst7, e_tup8, e_lst8, h1, Sh.d, evenD, s_ee, pluses_ok k ⟨by omega, by omega⟩, least, List.map_map, Function.comp_def]
  | sw w m =>
    obtain ⟨_, _, a, b⟩ := h
    have e1 := chops_len 200 m (by have := up_le m 134 (by omega) (by omega); omega)
    have e2 := chops_len 200 (m + 8) (by have := up_le (m + 8) 135 (by omega) (by omega); omega)
    have f1 := up_le m 134 (by omega) (by omega)
    have f2 := up_le (m + 8) 135 (by omega) (by omega)
    have z1 : ((chops 200 m).map fun x => (Hop.pl x).d).length + 1 ≤ sizeLine := by rw [List.length_map, sizeLine_eq]; omega
    have z2 : ((chops 200 (m + 8)).map fun x => (Hop.pl x).d).length + 1 ≤ sizeLine := by rw [List.length_map, sizeLine_eq]; omega
    have l1 : (((chops 200 m).map fun x => (Hop.pl x).d).length : Int) = up m := by rw [List.length_map]; exact e1
    have l2 : (((chops 200 (m + 8)).map fun x => (Hop.pl x).d).length : Int) = up (m + 8) := by rw [List.length_map]; exact e2
    have d1 : ((chops 200 m).map Hop.pl).map Hop.d = (chops 200 m).map fun x => (Hop.pl x).d := by rw [List.map_map]; rfl
    have d2 : ((chops 200 (m + 8)).map Hop.pl).map Hop.d = (chops 200 (m + 8)).map fun x => (Hop.pl x).d := by rw [List.map_map]; rfl
    rw [show least (.sw w m) = if up m ≤ up (m + 8) then (chops 200 m).map Hop.pl ++ [Hop.co w] else (chops 200 (m + 8)).map Hop.pl ++ [Hop.la w] from rfl]
    have p1 := pluses_ok m ⟨by omega, by omega⟩
    have p2 := pluses_ok (m + 8) ⟨by omega, by omega⟩
    by_cases hu : up m ≤ up (m + 8)
    · rw [if_pos hu, List.map_append, d1]
      generalize (chops 200 m).map (fun x => (Hop.pl x).d) = A at *
      generalize (chops 200 (m + 8)).map (fun x => (Hop.pl x).d) = A2 at *
      simp only [startE, List.map, List.length, List.replicate, e_Seq, e_Asg, e_Ret, e_RetF, e_Expr, e_exprK, e_op, e_op2, e_op1, e_un, e_is, e_B, e_bK, e_Cons, e_consK, e_consK2, e_Nil, e_var, e_C, e_bind, e_bindX, e_bindB, e_lookS, e_lookO, M.toD, e_of, e_asgK, e_gSet, e_stK, e_sqN, e_sqR, e_sqB, e_sqC, e_sNil, e_retK, e_retFK, e_add, e_vI, e_neg, e_fInt, e_fIntB, e_sIf, e_sifT, e_sifF, e_T, e_toB, e_Tru, e_truB, e_And, e_Or, e_andT, e_andF, e_orT, e_orF, e_Not, e_notK, e_AndV, e_OrV, e_andVT, e_andVF, e_orVT, e_orVF, e_NotV, e_notVK, e_If, e_ifT, e_ifF, e_Tup, e_Lst, e_LstF, e_tup0, e_lst0, e_lstF0, e_eqI, e_neI, e_ltI, e_leI, e_gtI, e_geI, e_lenL, e_lenT, e_lenR, e_lenS, e_ixL, e_ixT, at0, at1, at2, at3, e_tupL, e_tupT, e_lstT, e_Own, e_ownK, e_Sub, e_For, e_Items, e_itL, e_itT, e_itR, e_Call, e_CallF, e_aNil, e_aVal, e_aVK, e_aVK2, step0, step1, step2, step3, out0, out1, out2, out3, outX1, outX2, outO1, outO2, outO3, e_onSh, e_onOw, decide_true, decide_false, Bool.not_true, Bool.not_false, List.cons_append, List.nil_append, List.getElem?_cons_zero, List.getElem?_cons_succ, List.set_cons_zero, List.set_cons_succ, Nat.reduceLT, Nat.reduceAdd, Nat.reduceSub, Option.map_some, finF, outsE, e_frz, d_rng7, e_forK, e_tnN, e_tnC, e_tnB, e_tnR, e_whT, e_whF, e_Raise, e_Par, e_parK, e_parK2, e_augK, e_Ch, e_chK1, e_chK2, e_chT, e_chF, e_Try, e_tryO, e_tru, e_While, e_abs, e_max2, e_min2, e_gSq2, e_tup1, e_lst1, e_tup2, e_lst2, e_tup3, e_lst3, e_tup4, e_lst4, e_tup5, e_lst5, e_tup6, e_lst6, e_tup7, e_lst7, e_tup8, e_lst8, h1, Sh.d, sawD, s_se, p1, p2, l1, l2, hu, e_addT, z1, List.length_cons, List.length_nil, Hop.d]
    · rw [if_neg hu, List.map_append, d2]
      generalize (chops 200 m).map (fun x => (Hop.pl x).d) = A at *
      generalize (chops 200 (m + 8)).map (fun x => (Hop.pl x).d) = A2 at *
      simp only [startE, List.map, List.length, List.replicate, e_Seq, e_Asg, e_Ret, e_RetF, e_Expr, e_exprK, e_op, e_op2, e_op1, e_un, e_is, e_B, e_bK, e_Cons, e_consK, e_consK2, e_Nil, e_var, e_C, e_bind, e_bindX, e_bindB, e_lookS, e_lookO, M.toD, e_of, e_asgK, e_gSet, e_stK, e_sqN, e_sqR, e_sqB, e_sqC, e_sNil, e_retK, e_retFK, e_add, e_vI, e_neg, e_fInt, e_fIntB, e_sIf, e_sifT, e_sifF, e_T, e_toB, e_Tru, e_truB, e_And, e_Or, e_andT, e_andF, e_orT, e_orF, e_Not, e_notK, e_AndV, e_OrV, e_andVT, e_andVF, e_orVT, e_orVF, e_NotV, e_notVK, e_If, e_ifT, e_ifF, e_Tup, e_Lst, e_LstF, e_tup0, e_lst0, e_lstF0, e_eqI, e_neI, e_ltI, e_leI, e_gtI, e_geI, e_lenL, e_lenT, e_lenR, e_lenS, e_ixL, e_ixT, at0, at1, at2, at3, e_tupL, e_tupT, e_lstT, e_Own, e_ownK, e_Sub, e_For, e_Items, e_itL, e_itT, e_itR, e_Call, e_CallF, e_aNil, e_aVal, e_aVK, e_aVK2, step0, step1, step2, step3, out0, out1, out2, out3, outX1, outX2, outO1, outO2, outO3, e_onSh, e_onOw, decide_true, decide_false, Bool.not_true, Bool.not_false, List.cons_append, List.nil_append, List.getElem?_cons_zero, List.getElem?_cons_succ, List.set_cons_zero, List.set_cons_succ, Nat.reduceLT, Nat.reduceAdd, Nat.reduceSub, Option.map_some, finF, outsE, e_frz, d_rng7, e_forK, e_tnN, e_tnC, e_tnB, e_tnR, e_whT, e_whF, e_Raise, e_Par, e_parK, e_parK2, e_augK, e_Ch, e_chK1, e_chK2, e_chT, e_chF, e_Try, e_tryO, e_tru, e_While, e_abs, e_max2, e_min2, e_gSq2, e_tup1, e_lst1, e_tup2, e_lst2, e_tup3, e_lst3, e_tup4, e_lst4, e_tup5, e_lst5, e_tup6, e_lst6, e_tup7, e_lst7, e_tup8, e_lst8, h1, Sh.d, sawD, s_se, p1, p2, l1, l2, hu, e_addT, z2, List.length_cons, List.length_nil, Hop.d]
end L21
set_option Elab.async false
set_option linter.all false
set_option maxRecDepth 100000
namespace L21
open PySem L2 Rf Sv
/-! ### drawn things -/
theorem tk {m : M} {n : Int} (hm : Good m) (hn : 0 < n) (h9 : n.natAbs.log2 < 9000 := by decide) : ∃ r m', m__law_take [.ow m, .sh (.int n)] = .ok (.sh (.int r)) [m'] ∧ Good m' ∧ 0 ≤ r ∧ r < n := take_ok hm hn h9
theorem far_ok {m : M} {n : Int} (hm : Good m) (h20 : 20 ≤ n) (h4 : n ≤ 4000) : ∃ r m', m__law_far [.ow m, .sh (.int n)] = .ok (.sh (.int r)) [m'] ∧ Good m' ∧ -n ≤ r ∧ r ≤ n := by
  obtain ⟨a, m1, e1, g1, a0, a1⟩ := tk (n := 2) hm (by decide)
  have c2 : cMul 2 n = true := cMul_l (by decide)
  by_cases ha : a = 0
  · subst ha
    obtain ⟨b, m2, e2, g2, b0, b1⟩ := tk (n := 41) g1 (by decide)
    refine ⟨b - 20, m2, ?_, g2, by omega, by omega⟩
    refine (e_run [0] 2 _ _ rfl).trans ?_
    unfold b__law_far
    simp only [startE, List.map, List.length, List.replicate, e_Seq, e_Asg, e_Ret, e_RetF, e_Expr, e_exprK, e_op, e_op2, e_op1, e_un, e_is, e_B, e_bK, e_Cons, e_consK, e_consK2, e_Nil, e_var, e_C, e_bind, e_bindX, e_bindB, e_lookS, e_lookO, M.toD, e_of, e_asgK, e_gSet, e_stK, e_sqN, e_sqR, e_sqB, e_sqC, e_sNil, e_retK, e_retFK, e_add, e_vI, e_neg, e_fInt, e_fIntB, e_sIf, e_sifT, e_sifF, e_T, e_toB, e_Tru, e_truB, e_And, e_Or, e_andT, e_andF, e_orT, e_orF, e_Not, e_notK, e_AndV, e_OrV, e_andVT, e_andVF, e_orVT, e_orVF, e_NotV, e_notVK, e_If, e_ifT, e_ifF, e_Tup, e_Lst, e_LstF, e_tup0, e_lst0, e_lstF0, e_eqI, e_neI, e_ltI, e_leI, e_gtI, e_geI, e_lenL, e_lenT, e_lenR, e_lenS, e_ixL, e_ixT, at0, at1, at2, at3, e_tupL, e_tupT, e_lstT, e_Own, e_ownK, e_Sub, e_For, e_Items, e_itL, e_itT, e_itR, e_Call, e_CallF, e_aNil, e_aVal, e_aVK, e_aVK2, step0, step1, step2, step3, out0, out1, out2, out3, outX1, outX2, outO1, outO2, outO3, e_onSh, e_onOw, decide_true, decide_false, Bool.not_true, Bool.not_false, List.cons_append, List.nil_append, List.getElem?_cons_zero, List.getElem?_cons_succ, List.set_cons_zero, List.set_cons_succ, Nat.reduceLT, Nat.reduceAdd, Nat.reduceSub, Option.map_some, finF, outsE, e_frz, d_rng7, e_forK, e_tnN, e_tnC, e_tnB, e_tnR, e_whT, e_whF, e_Raise, e_Par, e_parK, e_parK2, e_augK, e_Ch, e_chK1, e_chK2, e_chT, e_chF, e_Try, e_tryO, e_tru, e_While, e_abs, e_max2, e_min2, e_gSq2, e_tup1, e_lst1, e_tup2, e_lst2, e_tup3, e_lst3, e_tup4, e_lst4, e_tup5, e_lst5, e_tup6, e_lst6, e_tup7, e_lst7, e_tup8, e_lst8, e_aIo (m := m), e_aIo (m := m1), stepO2 (m := m), stepO2 (m := m1), e1, e2, e_truI, beq_self_eq_true]
  · have hb : (a == 0) = false := beq_false_of_ne ha
    have hl : (2 * n + 1).natAbs.log2 < 9000 := by
      have : (2 * n + 1).natAbs < 2 ^ 9000 := Nat.lt_of_lt_of_le (show (2 * n + 1).natAbs < 2 ^ 14 by omega) (Nat.pow_le_pow_right (by decide) (by decide))
      exact (Nat.log2_lt (by omega)).mpr this
    obtain ⟨b, m2, e2, g2, b0, b1⟩ := tk (n := 2 * n + 1) g1 (by omega) hl
    refine ⟨b - n, m2, ?_, g2, by omega, by omega⟩
    refine (e_run [0] 2 _ _ rfl).trans ?_
    unfold b__law_far
    simp only [startE, List.map, List.length, List.replicate, e_Seq, e_Asg, e_Ret, e_RetF, e_Expr, e_exprK, e_op, e_op2, e_op1, e_un, e_is, e_B, e_bK, e_Cons, e_consK, e_consK2, e_Nil, e_var, e_C, e_bind, e_bindX, e_bindB, e_lookS, e_lookO, M.toD, e_of, e_asgK, e_gSet, e_stK, e_sqN, e_sqR, e_sqB, e_sqC, e_sNil, e_retK, e_retFK, e_add, e_vI, e_neg, e_fInt, e_fIntB, e_sIf, e_sifT, e_sifF, e_T, e_toB, e_Tru, e_truB, e_And, e_Or, e_andT, e_andF, e_orT, e_orF, e_Not, e_notK, e_AndV, e_OrV, e_andVT, e_andVF, e_orVT, e_orVF, e_NotV, e_notVK, e_If, e_ifT, e_ifF, e_Tup, e_Lst, e_LstF, e_tup0, e_lst0, e_lstF0, e_eqI, e_neI, e_ltI, e_leI, e_gtI, e_geI, e_lenL, e_lenT, e_lenR, e_lenS, e_ixL, e_ixT, at0, at1, at2, at3, e_tupL, e_tupT, e_lstT, e_Own, e_ownK, e_Sub, e_For, e_Items, e_itL, e_itT, e_itR, e_Call, e_CallF, e_aNil, e_aVal, e_aVK, e_aVK2, step0, step1, step2, step3, out0, out1, out2, out3, outX1, outX2, outO1, outO2, outO3, e_onSh, e_onOw, decide_true, decide_false, Bool.not_true, Bool.not_false, List.cons_append, List.nil_append, List.getElem?_cons_zero, List.getElem?_cons_succ, List.set_cons_zero, List.set_cons_succ, Nat.reduceLT, Nat.reduceAdd, Nat.reduceSub, Option.map_some, finF, outsE, e_frz, d_rng7, e_forK, e_tnN, e_tnC, e_tnB, e_tnR, e_whT, e_whF, e_Raise, e_Par, e_parK, e_parK2, e_augK, e_Ch, e_chK1, e_chK2, e_chT, e_chF, e_Try, e_tryO, e_tru, e_While, e_abs, e_max2, e_min2, e_gSq2, e_tup1, e_lst1, e_tup2, e_lst2, e_tup3, e_lst3, e_tup4, e_lst4, e_tup5, e_lst5, e_tup6, e_lst6, e_tup7, e_lst7, e_tup8, e_lst8, e_aIo (m := m), e_aIo (m := m1), stepO2 (m := m), stepO2 (m := m1), e1, e2, e_truI, hb, e_vIc, c2]
theorem sevens_ok {m : M} {n : Int} (hm : Good m) (h20 : 20 ≤ n) (h4 : n ≤ 4000) : ∃ s m', m__law_sevens [.ow m, .sh (.int n)] = .ok (.sh (tupI (Sh.lst s))) [m'] ∧ Good m' ∧ s.fit n := by
  obtain ⟨a, m1, e1, g1, a0, a1⟩ := tk (n := 3) hm (by decide)
  by_cases ha : a = 0
  · subst ha
    obtain ⟨b, m2, e2, g2, b0, b1⟩ := far_ok g1 h20 h4
    refine ⟨.ev b, m2, ?_, g2, b0, b1⟩
    refine (e_run [0] 2 _ _ rfl).trans ?_
    unfold b__law_sevens
    simp only [startE, List.map, List.length, List.replicate, e_Seq, e_Asg, e_Ret, e_RetF, e_Expr, e_exprK, e_op, e_op2, e_op1, e_un, e_is, e_B, e_bK, e_Cons, e_consK, e_consK2, e_Nil, e_var, e_C, e_bind, e_bindX, e_bindB, e_lookS, e_lookO, M.toD, e_of, e_asgK, e_gSet, e_stK, e_sqN, e_sqR, e_sqB, e_sqC, e_sNil, e_retK, e_retFK, e_add, e_vI, e_neg, e_fInt, e_fIntB, e_sIf, e_sifT, e_sifF, e_T, e_toB, e_Tru, e_truB, e_And, e_Or, e_andT, e_andF, e_orT, e_orF, e_Not, e_notK, e_AndV, e_OrV, e_andVT, e_andVF, e_orVT, e_orVF, e_NotV, e_notVK, e_If, e_ifT, e_ifF, e_Tup, e_Lst, e_LstF, e_tup0, e_lst0, e_lstF0, e_eqI, e_neI, e_ltI, e_leI, e_gtI, e_geI, e_lenL, e_lenT, e_lenR, e_lenS, e_ixL, e_ixT, at0, at1, at2, at3, e_tupL, e_tupT, e_lstT, e_Own, e_ownK, e_Sub, e_For, e_Items, e_itL, e_itT, e_itR, e_Call, e_CallF, e_aNil, e_aVal, e_aVK, e_aVK2, step0, step1, step2, step3, out0, out1, out2, out3, outX1, outX2, outO1, outO2, outO3, e_onSh, e_onOw, decide_true, decide_false, Bool.not_true, Bool.not_false, List.cons_append, List.nil_append, List.getElem?_cons_zero, List.getElem?_cons_succ, List.set_cons_zero, List.set_cons_succ, Nat.reduceLT, Nat.reduceAdd, Nat.reduceSub, Option.map_some, finF, outsE, e_frz, d_rng7, e_forK, e_tnN, e_tnC, e_tnB, e_tnR, e_whT, e_whF, e_Raise, e_Par, e_parK, e_parK2, e_augK, e_Ch, e_chK1, e_chK2, e_chT, e_chF, e_Try, e_tryO, e_tru, e_While, e_abs, e_max2, e_min2, e_gSq2, e_tup1, e_lst1, e_tup2, e_lst2, e_tup3, e_lst3, e_tup4, e_lst4, e_tup5, e_lst5, e_tup6, e_lst6, e_tup7, e_lst7, e_tup8, e_lst8, e_aIo (m := m), e_aIo (m := m1), stepO2 (m := m), stepO2 (m := m1), e1, e2, beq_self_eq_true, even_ok, Sh.lst]
  · have hb : (a == 0) = false := beq_false_of_ne ha
    obtain ⟨w, m2, e2, g2, w0, w1⟩ := tk (n := 7) g1 (by decide)
    obtain ⟨b, m3, e3, g3, b0, b1⟩ := far_ok g2 h20 h4
    refine ⟨.sw w b, m3, ?_, g3, w0, by omega, b0, b1⟩
    refine (e_run [0] 2 _ _ rfl).trans ?_
    unfold b__law_sevens
    simp only [startE, List.map, List.length, List.replicate, e_Seq, e_Asg, e_Ret, e_RetF, e_Expr, e_exprK, e_op, e_op2, e_op1, e_un, e_is, e_B, e_bK, e_Cons, e_consK, e_consK2, e_Nil, e_var, e_C, e_bind, e_bindX, e_bindB, e_lookS, e_lookO, M.toD, e_of, e_asgK, e_gSet, e_stK, e_sqN, e_sqR, e_sqB, e_sqC, e_sNil, e_retK, e_retFK, e_add, e_vI, e_neg, e_fInt, e_fIntB, e_sIf, e_sifT, e_sifF, e_T, e_toB, e_Tru, e_truB, e_And, e_Or, e_andT, e_andF, e_orT, e_orF, e_Not, e_notK, e_AndV, e_OrV, e_andVT, e_andVF, e_orVT, e_orVF, e_NotV, e_notVK, e_If, e_ifT, e_ifF, e_Tup, e_Lst, e_LstF, e_tup0, e_lst0, e_lstF0, e_eqI, e_neI, e_ltI, e_leI, e_gtI, e_geI, e_lenL, e_lenT, e_lenR, e_lenS, e_ixL, e_ixT, at0, at1, at2, at3, e_tupL, e_tupT, e_lstT, e_Own, e_ownK, e_Sub, e_For, e_Items, e_itL, e_itT, e_itR, e_Call, e_CallF, e_aNil, e_aVal, e_aVK, e_aVK2, step0, step1, step2, step3, out0, out1, out2, out3, outX1, outX2, outO1, outO2, outO3, e_onSh, e_onOw, decide_true, decide_false, Bool.not_true, Bool.not_false, List.cons_append, List.nil_append, List.getElem?_cons_zero, List.getElem?_cons_succ, List.set_cons_zero, List.set_cons_succ, Nat.reduceLT, Nat.reduceAdd, Nat.reduceSub, Option.map_some, finF, outsE, e_frz, d_rng7, e_forK, e_tnN, e_tnC, e_tnB, e_tnR, e_whT, e_whF, e_Raise, e_Par, e_parK, e_parK2, e_augK, e_Ch, e_chK1, e_chK2, e_chT, e_chF, e_Try, e_tryO, e_tru, e_While, e_abs, e_max2, e_min2, e_gSq2, e_tup1, e_lst1, e_tup2, e_lst2, e_tup3, e_lst3, e_tup4, e_lst4, e_tup5, e_lst5, e_tup6, e_lst6, e_tup7, e_lst7, e_tup8, e_lst8, e_aIo (m := m), e_aIo (m := m1), e_aIo (m := m2), stepO2 (m := m), stepO2 (m := m1), stepO2 (m := m2), e1, e2, e3, hb, law_saw_ok w b w0 (by omega), Sh.lst]
theorem at_fit {s : Sh} {n : Int} (h : s.fit n) (r : Int) : -n ≤ s.at r ∧ s.at r ≤ n + 7 := by
  cases s with
  | ev k => obtain ⟨a, b⟩ := h; exact ⟨a, by show k ≤ _; omega⟩
  | sw w m => obtain ⟨_, _, a, b⟩ := h; have := sawAt_lo w m r; have := sawAt_hi w m r; exact ⟨by show _ ≤ sawAt w m r; omega, by show sawAt w m r ≤ _; omega⟩
theorem plus_lst {s : Sh} {B : Int} (hs : s.fit B) (k : Int) : s.lst.map (fun x => x + k) = (s.hop (.pl k)).lst := by
  rw [← s.map, ← (s.hop (.pl k)).map, List.map_map]
  exact List.map_congr_left fun r _ => by
    have := hop_at hs (h := .pl k) trivial r
    simp only [Hop.on] at this
    show s.at r + k = _
    omega
theorem near_lc {s : Sh} {B : Int} (hs : s.fit B) (by_ : Int) (a b c : Option DV) : fLc (dItems (dVar 1)) (gSet 5) dYes (dAdd (dVar 5) (dVar 4)) [5] [a, some (.sh (tupI s.lst)), b, c, some (.sh (.int by_)), none]
    = .ok (.lst ((s.hop (.pl by_)).lst.map D.int)) [a, some (.sh (tupI s.lst)), b, c, some (.sh (.int by_)), none] := by
  have := lc_mapI (ρ := [a, some (.sh (tupI s.lst)), b, c, some (.sh (.int by_)), none]) (i := 5) (ns := s.lst) (di := dItems (dVar 1)) (te := dAdd (dVar 5) (dVar 4)) (fun x => x + by_) rfl rfl (fun n hn => by
    simp only [startE, List.map, List.length, List.replicate, e_Seq, e_Asg, e_Ret, e_RetF, e_Expr, e_exprK, e_op, e_op2, e_op1, e_un, e_is, e_B, e_bK, e_Cons, e_consK, e_consK2, e_Nil, e_var, e_C, e_bind, e_bindX, e_bindB, e_lookS, e_lookO, M.toD, e_of, e_asgK, e_gSet, e_stK, e_sqN, e_sqR, e_sqB, e_sqC, e_sNil, e_retK, e_retFK, e_add, e_vI, e_neg, e_fInt, e_fIntB, e_sIf, e_sifT, e_sifF, e_T, e_toB, e_Tru, e_truB, e_And, e_Or, e_andT, e_andF, e_orT, e_orF, e_Not, e_notK, e_AndV, e_OrV, e_andVT, e_andVF, e_orVT, e_orVF, e_NotV, e_notVK, e_If, e_ifT, e_ifF, e_Tup, e_Lst, e_LstF, e_tup0, e_lst0, e_lstF0, e_eqI, e_neI, e_ltI, e_leI, e_gtI, e_geI, e_lenL, e_lenT, e_lenR, e_lenS, e_ixL, e_ixT, at0, at1, at2, at3, e_tupL, e_tupT, e_lstT, e_Own, e_ownK, e_Sub, e_For, e_Items, e_itL, e_itT, e_itR, e_Call, e_CallF, e_aNil, e_aVal, e_aVK, e_aVK2, step0, step1, step2, step3, out0, out1, out2, out3, outX1, outX2, outO1, outO2, outO3, e_onSh, e_onOw, decide_true, decide_false, Bool.not_true, Bool.not_false, List.cons_append, List.nil_append, List.getElem?_cons_zero, List.getElem?_cons_succ, List.set_cons_zero, List.set_cons_succ, Nat.reduceLT, Nat.reduceAdd, Nat.reduceSub, Option.map_some, finF, outsE, e_frz, d_rng7, e_forK, e_tnN, e_tnC, e_tnB, e_tnR, e_whT, e_whF, e_Raise, e_Par, e_parK, e_parK2, e_augK, e_Ch, e_chK1, e_chK2, e_chT, e_chF, e_Try, e_tryO, e_tru, e_While, e_abs, e_max2, e_min2, e_gSq2, e_tup1, e_lst1, e_tup2, e_lst2, e_tup3, e_lst3, e_tup4, e_lst4, e_tup5, e_lst5, e_tup6, e_lst6, e_tup7, e_lst7, e_tup8, e_lst8]) (by rw [s.len]; exact seven_line)
  rw [this, plus_lst hs]
theorem near_ok {s : Sh} {m : M} (hm : Good m) (hs : s.fit 2900) : ∃ t m', m__law_near [.ow m, .sh (tupI s.lst)] = .ok (.sh (tupI (Sh.lst t))) [m'] ∧ Good m' ∧ t.fit 3000 := by
  have h1 := shape_ok hs
  obtain ⟨a, m1, e1, g1, a0, a1⟩ := tk (n := 5) hm (by decide)
  obtain ⟨b, m2, e2, g2, b0, b1⟩ := tk (n := 17) g1 (by decide)
  by_cases ha0 : a = 0
  · subst ha0
    obtain ⟨c, m3, e3, g3, c0, c1⟩ := tk (n := 7) g2 (by decide)
    have hf := at_fit hs c
    have hx := t_ix (s.atI (in7 c0 (by omega)))
    refine ⟨.ev (s.at c), m3, ?_, g3, by omega, by omega⟩
    refine (e_run [0] 6 _ _ rfl).trans ?_
    unfold b__law_near
    rw [show (Sh.ev (s.at c)).lst = evens (s.at c) from rfl]
    simp only [startE, List.map, List.length, List.replicate, e_Seq, e_Asg, e_Ret, e_RetF, e_Expr, e_exprK, e_op, e_op2, e_op1, e_un, e_is, e_B, e_bK, e_Cons, e_consK, e_consK2, e_Nil, e_var, e_C, e_bind, e_bindX, e_bindB, e_lookS, e_lookO, M.toD, e_of, e_asgK, e_gSet, e_stK, e_sqN, e_sqR, e_sqB, e_sqC, e_sNil, e_retK, e_retFK, e_add, e_vI, e_neg, e_fInt, e_fIntB, e_sIf, e_sifT, e_sifF, e_T, e_toB, e_Tru, e_truB, e_And, e_Or, e_andT, e_andF, e_orT, e_orF, e_Not, e_notK, e_AndV, e_OrV, e_andVT, e_andVF, e_orVT, e_orVF, e_NotV, e_notVK, e_If, e_ifT, e_ifF, e_Tup, e_Lst, e_LstF, e_tup0, e_lst0, e_lstF0, e_eqI, e_neI, e_ltI, e_leI, e_gtI, e_geI, e_lenL, e_lenT, e_lenR, e_lenS, e_ixL, e_ixT, at0, at1, at2, at3, e_tupL, e_tupT, e_lstT, e_Own, e_ownK, e_Sub, e_For, e_Items, e_itL, e_itT, e_itR, e_Call, e_CallF, e_aNil, e_aVal, e_aVK, e_aVK2, step0, step1, step2, step3, out0, out1, out2, out3, outX1, outX2, outO1, outO2, outO3, e_onSh, e_onOw, decide_true, decide_false, Bool.not_true, Bool.not_false, List.cons_append, List.nil_append, List.getElem?_cons_zero, List.getElem?_cons_succ, List.set_cons_zero, List.set_cons_succ, Nat.reduceLT, Nat.reduceAdd, Nat.reduceSub, Option.map_some, finF, outsE, e_frz, d_rng7, e_forK, e_tnN, e_tnC, e_tnB, e_tnR, e_whT, e_whF, e_Raise, e_Par, e_parK, e_parK2, e_augK, e_Ch, e_chK1, e_chK2, e_chT, e_chF, e_Try, e_tryO, e_tru, e_While, e_abs, e_max2, e_min2, e_gSq2, e_tup1, e_lst1, e_tup2, e_lst2, e_tup3, e_lst3, e_tup4, e_lst4, e_tup5, e_lst5, e_tup6, e_lst6, e_tup7, e_lst7, e_tup8, e_lst8, e_aIo (m := m), e_aIo (m := m1), e_aIo (m := m2), stepO2 (m := m), stepO2 (m := m1), stepO2 (m := m2), h1, e1, e2, e3, beq_self_eq_true, hx, even_ok]
  · have hb0 : (a == 0) = false := beq_false_of_ne ha0
    by_cases ha1 : a = 1
    · subst ha1
      cases s with
      | ev k =>
        obtain ⟨k0, k1⟩ := hs
        refine ⟨.ev (k + (b - 8)), m2, ?_, g2, by omega, by omega⟩
        refine (e_run [0] 6 _ _ rfl).trans ?_
        unfold b__law_near
        rw [show (Sh.ev (k + (b - 8))).lst = evens (k + (b - 8)) from rfl]
        simp only [startE, List.map, List.length, List.replicate, e_Seq, e_Asg, e_Ret, e_RetF, e_Expr, e_exprK, e_op, e_op2, e_op1, e_un, e_is, e_B, e_bK, e_Cons, e_consK, e_consK2, e_Nil, e_var, e_C, e_bind, e_bindX, e_bindB, e_lookS, e_lookO, M.toD, e_of, e_asgK, e_gSet, e_stK, e_sqN, e_sqR, e_sqB, e_sqC, e_sNil, e_retK, e_retFK, e_add, e_vI, e_neg, e_fInt, e_fIntB, e_sIf, e_sifT, e_sifF, e_T, e_toB, e_Tru, e_truB, e_And, e_Or, e_andT, e_andF, e_orT, e_orF, e_Not, e_notK, e_AndV, e_OrV, e_andVT, e_andVF, e_orVT, e_orVF, e_NotV, e_notVK, e_If, e_ifT, e_ifF, e_Tup, e_Lst, e_LstF, e_tup0, e_lst0, e_lstF0, e_eqI, e_neI, e_ltI, e_leI, e_gtI, e_geI, e_lenL, e_lenT, e_lenR, e_lenS, e_ixL, e_ixT, at0, at1, at2, at3, e_tupL, e_tupT, e_lstT, e_Own, e_ownK, e_Sub, e_For, e_Items, e_itL, e_itT, e_itR, e_Call, e_CallF, e_aNil, e_aVal, e_aVK, e_aVK2, step0, step1, step2, step3, out0, out1, out2, out3, outX1, outX2, outO1, outO2, outO3, e_onSh, e_onOw, decide_true, decide_false, Bool.not_true, Bool.not_false, List.cons_append, List.nil_append, List.getElem?_cons_zero, List.getElem?_cons_succ, List.set_cons_zero, List.set_cons_succ, Nat.reduceLT, Nat.reduceAdd, Nat.reduceSub, Option.map_some, finF, outsE, e_frz, d_rng7, e_forK, e_tnN, e_tnC, e_tnB, e_tnR, e_whT, e_whF, e_Raise, e_Par, e_parK, e_parK2, e_augK, e_Ch, e_chK1, e_chK2, e_chT, e_chF, e_Try, e_tryO, e_tru, e_While, e_abs, e_max2, e_min2, e_gSq2, e_tup1, e_lst1, e_tup2, e_lst2, e_tup3, e_lst3, e_tup4, e_lst4, e_tup5, e_lst5, e_tup6, e_lst6, e_tup7, e_lst7, e_tup8, e_lst8, e_aIo (m := m), e_aIo (m := m1), e_aIo (m := m2), stepO2 (m := m), stepO2 (m := m1), stepO2 (m := m2), h1, e1, e2, hb0, beq_self_eq_true, Sh.d, evenD, s_ee, even_ok]
      | sw w n =>
        obtain ⟨w0, w6, k0, k1⟩ := hs
        refine ⟨.sw w (n + (b - 8)), m2, ?_, g2, w0, w6, by omega, by omega⟩
        refine (e_run [0] 6 _ _ rfl).trans ?_
        unfold b__law_near
        rw [show (Sh.sw w (n + (b - 8))).lst = saws w (n + (b - 8)) from rfl]
        simp only [startE, List.map, List.length, List.replicate, e_Seq, e_Asg, e_Ret, e_RetF, e_Expr, e_exprK, e_op, e_op2, e_op1, e_un, e_is, e_B, e_bK, e_Cons, e_consK, e_consK2, e_Nil, e_var, e_C, e_bind, e_bindX, e_bindB, e_lookS, e_lookO, M.toD, e_of, e_asgK, e_gSet, e_stK, e_sqN, e_sqR, e_sqB, e_sqC, e_sNil, e_retK, e_retFK, e_add, e_vI, e_neg, e_fInt, e_fIntB, e_sIf, e_sifT, e_sifF, e_T, e_toB, e_Tru, e_truB, e_And, e_Or, e_andT, e_andF, e_orT, e_orF, e_Not, e_notK, e_AndV, e_OrV, e_andVT, e_andVF, e_orVT, e_orVF, e_NotV, e_notVK, e_If, e_ifT, e_ifF, e_Tup, e_Lst, e_LstF, e_tup0, e_lst0, e_lstF0, e_eqI, e_neI, e_ltI, e_leI, e_gtI, e_geI, e_lenL, e_lenT, e_lenR, e_lenS, e_ixL, e_ixT, at0, at1, at2, at3, e_tupL, e_tupT, e_lstT, e_Own, e_ownK, e_Sub, e_For, e_Items, e_itL, e_itT, e_itR, e_Call, e_CallF, e_aNil, e_aVal, e_aVK, e_aVK2, step0, step1, step2, step3, out0, out1, out2, out3, outX1, outX2, outO1, outO2, outO3, e_onSh, e_onOw, decide_true, decide_false, Bool.not_true, Bool.not_false, List.cons_append, List.nil_append, List.getElem?_cons_zero, List.getElem?_cons_succ, List.set_cons_zero, List.set_cons_succ, Nat.reduceLT, Nat.reduceAdd, Nat.reduceSub, Option.map_some, finF, outsE, e_frz, d_rng7, e_forK, e_tnN, e_tnC, e_tnB, e_tnR, e_whT, e_whF, e_Raise, e_Par, e_parK, e_parK2, e_augK, e_Ch, e_chK1, e_chK2, e_chT, e_chF, e_Try, e_tryO, e_tru, e_While, e_abs, e_max2, e_min2, e_gSq2, e_tup1, e_lst1, e_tup2, e_lst2, e_tup3, e_lst3, e_tup4, e_lst4, e_tup5, e_lst5, e_tup6, e_lst6, e_tup7, e_lst7, e_tup8, e_lst8, e_aIo (m := m), e_aIo (m := m1), e_aIo (m := m2), stepO2 (m := m), stepO2 (m := m1), stepO2 (m := m2), h1, e1, e2, hb0, beq_self_eq_true, Sh.d, sawD, s_se, law_saw_ok w _ w0 w6]
    · have hb1 : (a == 1) = false := beq_false_of_ne ha1
      by_cases ha2 : a = 2
      · subst ha2
        obtain ⟨w, m3, e3, g3, w0, w1⟩ := tk (n := 7) g2 (by decide)
        have hf := at_fit hs 0
        have hx := t_ix (s.atI (show (0 : Int) ∈ R7 by decide))
        refine ⟨.sw w (s.at 0 + (b - 8)), m3, ?_, g3, w0, by omega, by omega, by omega⟩
        refine (e_run [0] 6 _ _ rfl).trans ?_
        unfold b__law_near
        rw [show (Sh.sw w (s.at 0 + (b - 8))).lst = saws w (s.at 0 + (b - 8)) from rfl]
        simp only [startE, List.map, List.length, List.replicate, e_Seq, e_Asg, e_Ret, e_RetF, e_Expr, e_exprK, e_op, e_op2, e_op1, e_un, e_is, e_B, e_bK, e_Cons, e_consK, e_consK2, e_Nil, e_var, e_C, e_bind, e_bindX, e_bindB, e_lookS, e_lookO, M.toD, e_of, e_asgK, e_gSet, e_stK, e_sqN, e_sqR, e_sqB, e_sqC, e_sNil, e_retK, e_retFK, e_add, e_vI, e_neg, e_fInt, e_fIntB, e_sIf, e_sifT, e_sifF, e_T, e_toB, e_Tru, e_truB, e_And, e_Or, e_andT, e_andF, e_orT, e_orF, e_Not, e_notK, e_AndV, e_OrV, e_andVT, e_andVF, e_orVT, e_orVF, e_NotV, e_notVK, e_If, e_ifT, e_ifF, e_Tup, e_Lst, e_LstF, e_tup0, e_lst0, e_lstF0, e_eqI, e_neI, e_ltI, e_leI, e_gtI, e_geI, e_lenL, e_lenT, e_lenR, e_lenS, e_ixL, e_ixT, at0, at1, at2, at3, e_tupL, e_tupT, e_lstT, e_Own, e_ownK, e_Sub, e_For, e_Items, e_itL, e_itT, e_itR, e_Call, e_CallF, e_aNil, e_aVal, e_aVK, e_aVK2, step0, step1, step2, step3, out0, out1, out2, out3, outX1, outX2, outO1, outO2, outO3, e_onSh, e_onOw, decide_true, decide_false, Bool.not_true, Bool.not_false, List.cons_append, List.nil_append, List.getElem?_cons_zero, List.getElem?_cons_succ, List.set_cons_zero, List.set_cons_succ, Nat.reduceLT, Nat.reduceAdd, Nat.reduceSub, Option.map_some, finF, outsE, e_frz, d_rng7, e_forK, e_tnN, e_tnC, e_tnB, e_tnR, e_whT, e_whF, e_Raise, e_Par, e_parK, e_parK2, e_augK, e_Ch, e_chK1, e_chK2, e_chT, e_chF, e_Try, e_tryO, e_tru, e_While, e_abs, e_max2, e_min2, e_gSq2, e_tup1, e_lst1, e_tup2, e_lst2, e_tup3, e_lst3, e_tup4, e_lst4, e_tup5, e_lst5, e_tup6, e_lst6, e_tup7, e_lst7, e_tup8, e_lst8, e_aIo (m := m), e_aIo (m := m1), e_aIo (m := m2), stepO2 (m := m), stepO2 (m := m1), stepO2 (m := m2), h1, e1, e2, e3, hb0, hb1, beq_self_eq_true, hx, law_saw_ok w _ w0 (Int.le_of_lt_add_one w1)]
      · have hb2 : (a == 2) = false := beq_false_of_ne ha2
        by_cases ha3 : a = 3
        · subst ha3
          have hl := near_lc hs (b - 8) (some (.ow m2)) (some (.sh s.d)) (some (.sh (.int 3)))
          refine ⟨s.hop (.pl (b - 8)), m2, ?_, g2, Sh.mono (hop_fit hs (h := .pl (b - 8)) ⟨by omega, by omega⟩) (by decide)⟩
          refine (e_run [0] 6 _ _ rfl).trans ?_
          unfold b__law_near
          simp only [startE, List.map, List.length, List.replicate, e_Seq, e_Asg, e_Ret, e_RetF, e_Expr, e_exprK, e_op, e_op2, e_op1, e_un, e_is, e_B, e_bK, e_Cons, e_consK, e_consK2, e_Nil, e_var, e_C, e_bind, e_bindX, e_bindB, e_lookS, e_lookO, M.toD, e_of, e_asgK, e_gSet, e_stK, e_sqN, e_sqR, e_sqB, e_sqC, e_sNil, e_retK, e_retFK, e_add, e_vI, e_neg, e_fInt, e_fIntB, e_sIf, e_sifT, e_sifF, e_T, e_toB, e_Tru, e_truB, e_And, e_Or, e_andT, e_andF, e_orT, e_orF, e_Not, e_notK, e_AndV, e_OrV, e_andVT, e_andVF, e_orVT, e_orVF, e_NotV, e_notVK, e_If, e_ifT, e_ifF, e_Tup, e_Lst, e_LstF, e_tup0, e_lst0, e_lstF0, e_eqI, e_neI, e_ltI, e_leI, e_gtI, e_geI, e_lenL, e_lenT, e_lenR, e_lenS, e_ixL, e_ixT, at0, at1, at2, at3, e_tupL, e_tupT, e_lstT, e_Own, e_ownK, e_Sub, e_For, e_Items, e_itL, e_itT, e_itR, e_Call, e_CallF, e_aNil, e_aVal, e_aVK, e_aVK2, step0, step1, step2, step3, out0, out1, out2, out3, outX1, outX2, outO1, outO2, outO3, e_onSh, e_onOw, decide_true, decide_false, Bool.not_true, Bool.not_false, List.cons_append, List.nil_append, List.getElem?_cons_zero, List.getElem?_cons_succ, List.set_cons_zero, List.set_cons_succ, Nat.reduceLT, Nat.reduceAdd, Nat.reduceSub, Option.map_some, finF, outsE, e_frz, d_rng7, e_forK, e_tnN, e_tnC, e_tnB, e_tnR, e_whT, e_whF, e_Raise, e_Par, e_parK, e_parK2, e_augK, e_Ch, e_chK1, e_chK2, e_chT, e_chF, e_Try, e_tryO, e_tru, e_While, e_abs, e_max2, e_min2, e_gSq2, e_tup1, e_lst1, e_tup2, e_lst2, e_tup3, e_lst3, e_tup4, e_lst4, e_tup5, e_lst5, e_tup6, e_lst6, e_tup7, e_lst7, e_tup8, e_lst8, t_fld, t_eq, t_ne, t_len, t_is, t_itm, t_of, t_of2, t_lst, e_aIo (m := m), e_aIo (m := m1), e_aIo (m := m2), stepO2 (m := m), stepO2 (m := m1), stepO2 (m := m2), h1, e1, e2, hb0, hb1, hb2, beq_self_eq_true, hl]
        · have hb3 : (a == 3) = false := beq_false_of_ne ha3
          obtain ⟨t, m3, e3, g3, ht⟩ := sevens_ok (n := 2900) g2 (by decide) (by decide)
          refine ⟨t, m3, ?_, g3, Sh.mono ht (by decide)⟩
          refine (e_run [0] 6 _ _ rfl).trans ?_
          unfold b__law_near
          simp only [startE, List.map, List.length, List.replicate, e_Seq, e_Asg, e_Ret, e_RetF, e_Expr, e_exprK, e_op, e_op2, e_op1, e_un, e_is, e_B, e_bK, e_Cons, e_consK, e_consK2, e_Nil, e_var, e_C, e_bind, e_bindX, e_bindB, e_lookS, e_lookO, M.toD, e_of, e_asgK, e_gSet, e_stK, e_sqN, e_sqR, e_sqB, e_sqC, e_sNil, e_retK, e_retFK, e_add, e_vI, e_neg, e_fInt, e_fIntB, e_sIf, e_sifT, e_sifF, e_T, e_toB, e_Tru, e_truB, e_And, e_Or, e_andT, e_andF, e_orT, e_orF, e_Not, e_notK, e_AndV, e_OrV, e_andVT, e_andVF, e_orVT, e_orVF, e_NotV, e_notVK, e_If, e_ifT, e_ifF, e_Tup, e_Lst, e_LstF, e_tup0, e_lst0, e_lstF0, e_eqI, e_neI, e_ltI, e_leI, e_gtI, e_geI, e_lenL, e_lenT, e_lenR, e_lenS, e_ixL, e_ixT, at0, at1, at2, at3, e_tupL, e_tupT, e_lstT, e_Own, e_ownK, e_Sub, e_For, e_Items, e_itL, e_itT, e_itR, e_Call, e_CallF, e_aNil, e_aVal, e_aVK, e_aVK2, step0, step1, step2, step3, out0, out1, out2, out3, outX1, outX2, outO1, outO2, outO3, e_onSh, e_onOw, decide_true, decide_false, Bool.not_true, Bool.not_false, List.cons_append, List.nil_append, List.getElem?_cons_zero, List.getElem?_cons_succ, List.set_cons_zero, List.set_cons_succ, Nat.reduceLT, Nat.reduceAdd, Nat.reduceSub, Option.map_some, finF, outsE, e_frz, d_rng7, e_forK, e_tnN, e_tnC, e_tnB, e_tnR, e_whT, e_whF, e_Raise, e_Par, e_parK, e_parK2, e_augK, e_Ch, e_chK1, e_chK2, e_chT, e_chF, e_Try, e_tryO, e_tru, e_While, e_abs, e_max2, e_min2, e_gSq2, e_tup1, e_lst1, e_tup2, e_lst2, e_tup3, e_lst3, e_tup4, e_lst4, e_tup5, e_lst5, e_tup6, e_lst6, e_tup7, e_lst7, e_tup8, e_lst8, e_aIo (m := m), e_aIo (m := m1), e_aIo (m := m2), stepO2 (m := m), stepO2 (m := m1), stepO2 (m := m2), h1, e1, e2, e3, hb0, hb1, hb2, hb3]
theorem step_ok {m : M} (hm : Good m) : ∃ r m', m__law_step [.ow m] = .ok (.sh (.int r)) [m'] ∧ Good m' ∧ -30 ≤ r ∧ r ≤ 30 := by
  obtain ⟨a, m1, e1, g1, a0, a1⟩ := tk (n := 8) hm (by decide)
  by_cases ha : a = 0
  · subst ha
    obtain ⟨b, m2, e2, g2, b0, b1⟩ := tk (n := 61) g1 (by decide)
    refine ⟨b - 30, m2, ?_, g2, by omega, by omega⟩
    refine (e_run [0] 1 _ _ rfl).trans ?_
    unfold b__law_step
    simp only [startE, List.map, List.length, List.replicate, e_Seq, e_Asg, e_Ret, e_RetF, e_Expr, e_exprK, e_op, e_op2, e_op1, e_un, e_is, e_B, e_bK, e_Cons, e_consK, e_consK2, e_Nil, e_var, e_C, e_bind, e_bindX, e_bindB, e_lookS, e_lookO, M.toD, e_of, e_asgK, e_gSet, e_stK, e_sqN, e_sqR, e_sqB, e_sqC, e_sNil, e_retK, e_retFK, e_add, e_vI, e_neg, e_fInt, e_fIntB, e_sIf, e_sifT, e_sifF, e_T, e_toB, e_Tru, e_truB, e_And, e_Or, e_andT, e_andF, e_orT, e_orF, e_Not, e_notK, e_AndV, e_OrV, e_andVT, e_andVF, e_orVT, e_orVF, e_NotV, e_notVK, e_If, e_ifT, e_ifF, e_Tup, e_Lst, e_LstF, e_tup0, e_lst0, e_lstF0, e_eqI, e_neI, e_ltI, e_leI, e_gtI, e_geI, e_lenL, e_lenT, e_lenR, e_lenS, e_ixL, e_ixT, at0, at1, at2, at3, e_tupL, e_tupT, e_lstT, e_Own, e_ownK, e_Sub, e_For, e_Items, e_itL, e_itT, e_itR, e_Call, e_CallF, e_aNil, e_aVal, e_aVK, e_aVK2, step0, step1, step2, step3, out0, out1, out2, out3, outX1, outX2, outO1, outO2, outO3, e_onSh, e_onOw, decide_true, decide_false, Bool.not_true, Bool.not_false, List.cons_append, List.nil_append, List.getElem?_cons_zero, List.getElem?_cons_succ, List.set_cons_zero, List.set_cons_succ, Nat.reduceLT, Nat.reduceAdd, Nat.reduceSub, Option.map_some, finF, outsE, e_frz, d_rng7, e_forK, e_tnN, e_tnC, e_tnB, e_tnR, e_whT, e_whF, e_Raise, e_Par, e_parK, e_parK2, e_augK, e_Ch, e_chK1, e_chK2, e_chT, e_chF, e_Try, e_tryO, e_tru, e_While, e_abs, e_max2, e_min2, e_gSq2, e_tup1, e_lst1, e_tup2, e_lst2, e_tup3, e_lst3, e_tup4, e_lst4, e_tup5, e_lst5, e_tup6, e_lst6, e_tup7, e_lst7, e_tup8, e_lst8, e_aIo (m := m), e_aIo (m := m1), stepO2 (m := m), stepO2 (m := m1), e1, e2, beq_self_eq_true]
  · have hb : (a == 0) = false := beq_false_of_ne ha
    obtain ⟨b, m2, e2, g2, b0, b1⟩ := tk (n := 7) g1 (by decide)
    refine ⟨b - 3, m2, ?_, g2, by omega, by omega⟩
    refine (e_run [0] 1 _ _ rfl).trans ?_
    unfold b__law_step
    simp only [startE, List.map, List.length, List.replicate, e_Seq, e_Asg, e_Ret, e_RetF, e_Expr, e_exprK, e_op, e_op2, e_op1, e_un, e_is, e_B, e_bK, e_Cons, e_consK, e_consK2, e_Nil, e_var, e_C, e_bind, e_bindX, e_bindB, e_lookS, e_lookO, M.toD, e_of, e_asgK, e_gSet, e_stK, e_sqN, e_sqR, e_sqB, e_sqC, e_sNil, e_retK, e_retFK, e_add, e_vI, e_neg, e_fInt, e_fIntB, e_sIf, e_sifT, e_sifF, e_T, e_toB, e_Tru, e_truB, e_And, e_Or, e_andT, e_andF, e_orT, e_orF, e_Not, e_notK, e_AndV, e_OrV, e_andVT, e_andVF, e_orVT, e_orVF, e_NotV, e_notVK, e_If, e_ifT, e_ifF, e_Tup, e_Lst, e_LstF, e_tup0, e_lst0, e_lstF0, e_eqI, e_neI, e_ltI, e_leI, e_gtI, e_geI, e_lenL, e_lenT, e_lenR, e_lenS, e_ixL, e_ixT, at0, at1, at2, at3, e_tupL, e_tupT, e_lstT, e_Own, e_ownK, e_Sub, e_For, e_Items, e_itL, e_itT, e_itR, e_Call, e_CallF, e_aNil, e_aVal, e_aVK, e_aVK2, step0, step1, step2, step3, out0, out1, out2, out3, outX1, outX2, outO1, outO2, outO3, e_onSh, e_onOw, decide_true, decide_false, Bool.not_true, Bool.not_false, List.cons_append, List.nil_append, List.getElem?_cons_zero, List.getElem?_cons_succ, List.set_cons_zero, List.set_cons_succ, Nat.reduceLT, Nat.reduceAdd, Nat.reduceSub, Option.map_some, finF, outsE, e_frz, d_rng7, e_forK, e_tnN, e_tnC, e_tnB, e_tnR, e_whT, e_whF, e_Raise, e_Par, e_parK, e_parK2, e_augK, e_Ch, e_chK1, e_chK2, e_chT, e_chF, e_Try, e_tryO, e_tru, e_While, e_abs, e_max2, e_min2, e_gSq2, e_tup1, e_lst1, e_tup2, e_lst2, e_tup3, e_lst3, e_tup4, e_lst4, e_tup5, e_lst5, e_tup6, e_lst6, e_tup7, e_lst7, e_tup8, e_lst8, e_aIo (m := m), e_aIo (m := m1), stepO2 (m := m), stepO2 (m := m1), e1, e2, hb]
theorem hop_ok {m : M} (hm : Good m) : ∃ (h : Hop) (m' : M), m__law_hop [.ow m] = .ok (.sh h.d) [m'] ∧ Good m' ∧ h.fit := by
  obtain ⟨a, m1, e1, g1, a0, a1⟩ := tk (n := 4) hm (by decide)
  by_cases ha : a < 2
  · obtain ⟨b, m2, e2, g2, b0, b1⟩ := step_ok g1
    refine ⟨.pl b, m2, ?_, g2, b0, b1⟩
    refine (e_run [0] 2 _ _ rfl).trans ?_
    unfold b__law_hop
    simp only [startE, List.map, List.length, List.replicate, e_Seq, e_Asg, e_Ret, e_RetF, e_Expr, e_exprK, e_op, e_op2, e_op1, e_un, e_is, e_B, e_bK, e_Cons, e_consK, e_consK2, e_Nil, e_var, e_C, e_bind, e_bindX, e_bindB, e_lookS, e_lookO, M.toD, e_of, e_asgK, e_gSet, e_stK, e_sqN, e_sqR, e_sqB, e_sqC, e_sNil, e_retK, e_retFK, e_add, e_vI, e_neg, e_fInt, e_fIntB, e_sIf, e_sifT, e_sifF, e_T, e_toB, e_Tru, e_truB, e_And, e_Or, e_andT, e_andF, e_orT, e_orF, e_Not, e_notK, e_AndV, e_OrV, e_andVT, e_andVF, e_orVT, e_orVF, e_NotV, e_notVK, e_If, e_ifT, e_ifF, e_Tup, e_Lst, e_LstF, e_tup0, e_lst0, e_lstF0, e_eqI, e_neI, e_ltI, e_leI, e_gtI, e_geI, e_lenL, e_lenT, e_lenR, e_lenS, e_ixL, e_ixT, at0, at1, at2, at3, e_tupL, e_tupT, e_lstT, e_Own, e_ownK, e_Sub, e_For, e_Items, e_itL, e_itT, e_itR, e_Call, e_CallF, e_aNil, e_aVal, e_aVK, e_aVK2, step0, step1, step2, step3, out0, out1, out2, out3, outX1, outX2, outO1, outO2, outO3, e_onSh, e_onOw, decide_true, decide_false, Bool.not_true, Bool.not_false, List.cons_append, List.nil_append, List.getElem?_cons_zero, List.getElem?_cons_succ, List.set_cons_zero, List.set_cons_succ, Nat.reduceLT, Nat.reduceAdd, Nat.reduceSub, Option.map_some, finF, outsE, e_frz, d_rng7, e_forK, e_tnN, e_tnC, e_tnB, e_tnR, e_whT, e_whF, e_Raise, e_Par, e_parK, e_parK2, e_augK, e_Ch, e_chK1, e_chK2, e_chT, e_chF, e_Try, e_tryO, e_tru, e_While, e_abs, e_max2, e_min2, e_gSq2, e_tup1, e_lst1, e_tup2, e_lst2, e_tup3, e_lst3, e_tup4, e_lst4, e_tup5, e_lst5, e_tup6, e_lst6, e_tup7, e_lst7, e_tup8, e_lst8, e_aIo (m := m), e_aIo (m := m1), stepO2 (m := m), stepO1 (m := m1), e1, e2, ha, Hop.d]
  · obtain ⟨w, m2, e2, g2, w0, w1⟩ := tk (n := 7) g1 (by decide)
    by_cases ha2 : a = 2
    · subst ha2
      refine ⟨.co w, m2, ?_, g2, w0, by omega⟩
      refine (e_run [0] 2 _ _ rfl).trans ?_
      unfold b__law_hop
      simp only [startE, List.map, List.length, List.replicate, e_Seq, e_Asg, e_Ret, e_RetF, e_Expr, e_exprK, e_op, e_op2, e_op1, e_un, e_is, e_B, e_bK, e_Cons, e_consK, e_consK2, e_Nil, e_var, e_C, e_bind, e_bindX, e_bindB, e_lookS, e_lookO, M.toD, e_of, e_asgK, e_gSet, e_stK, e_sqN, e_sqR, e_sqB, e_sqC, e_sNil, e_retK, e_retFK, e_add, e_vI, e_neg, e_fInt, e_fIntB, e_sIf, e_sifT, e_sifF, e_T, e_toB, e_Tru, e_truB, e_And, e_Or, e_andT, e_andF, e_orT, e_orF, e_Not, e_notK, e_AndV, e_OrV, e_andVT, e_andVF, e_orVT, e_orVF, e_NotV, e_notVK, e_If, e_ifT, e_ifF, e_Tup, e_Lst, e_LstF, e_tup0, e_lst0, e_lstF0, e_eqI, e_neI, e_ltI, e_leI, e_gtI, e_geI, e_lenL, e_lenT, e_lenR, e_lenS, e_ixL, e_ixT, at0, at1, at2, at3, e_tupL, e_tupT, e_lstT, e_Own, e_ownK, e_Sub, e_For, e_Items, e_itL, e_itT, e_itR, e_Call, e_CallF, e_aNil, e_aVal, e_aVK, e_aVK2, step0, step1, step2, step3, out0, out1, out2, out3, outX1, outX2, outO1, outO2, outO3, e_onSh, e_onOw, decide_true, decide_false, Bool.not_true, Bool.not_false, List.cons_append, List.nil_append, List.getElem?_cons_zero, List.getElem?_cons_succ, List.set_cons_zero, List.set_cons_succ, Nat.reduceLT, Nat.reduceAdd, Nat.reduceSub, Option.map_some, finF, outsE, e_frz, d_rng7, e_forK, e_tnN, e_tnC, e_tnB, e_tnR, e_whT, e_whF, e_Raise, e_Par, e_parK, e_parK2, e_augK, e_Ch, e_chK1, e_chK2, e_chT, e_chF, e_Try, e_tryO, e_tru, e_While, e_abs, e_max2, e_min2, e_gSq2, e_tup1, e_lst1, e_tup2, e_lst2, e_tup3, e_lst3, e_tup4, e_lst4, e_tup5, e_lst5, e_tup6, e_lst6, e_tup7, e_lst7, e_tup8, e_lst8, e_aIo (m := m), e_aIo (m := m1), stepO2 (m := m), stepO2 (m := m1), e1, e2, Int.lt_irrefl, Int.sub_self, Hop.d]
    · have ha3 : a = 3 := by omega
      subst ha3
      refine ⟨.la w, m2, ?_, g2, w0, by omega⟩
      refine (e_run [0] 2 _ _ rfl).trans ?_
      unfold b__law_hop
      simp only [startE, List.map, List.length, List.replicate, e_Seq, e_Asg, e_Ret, e_RetF, e_Expr, e_exprK, e_op, e_op2, e_op1, e_un, e_is, e_B, e_bK, e_Cons, e_consK, e_consK2, e_Nil, e_var, e_C, e_bind, e_bindX, e_bindB, e_lookS, e_lookO, M.toD, e_of, e_asgK, e_gSet, e_stK, e_sqN, e_sqR, e_sqB, e_sqC, e_sNil, e_retK, e_retFK, e_add, e_vI, e_neg, e_fInt, e_fIntB, e_sIf, e_sifT, e_sifF, e_T, e_toB, e_Tru, e_truB, e_And, e_Or, e_andT, e_andF, e_orT, e_orF, e_Not, e_notK, e_AndV, e_OrV, e_andVT, e_andVF, e_orVT, e_orVF, e_NotV, e_notVK, e_If, e_ifT, e_ifF, e_Tup, e_Lst, e_LstF, e_tup0, e_lst0, e_lstF0, e_eqI, e_neI, e_ltI, e_leI, e_gtI, e_geI, e_lenL, e_lenT, e_lenR, e_lenS, e_ixL, e_ixT, at0, at1, at2, at3, e_tupL, e_tupT, e_lstT, e_Own, e_ownK, e_Sub, e_For, e_Items, e_itL, e_itT, e_itR, e_Call, e_CallF, e_aNil, e_aVal, e_aVK, e_aVK2, step0, step1, step2, step3, out0, out1, out2, out3, outX1, outX2, outO1, outO2, outO3, e_onSh, e_onOw, decide_true, decide_false, Bool.not_true, Bool.not_false, List.cons_append, List.nil_append, List.getElem?_cons_zero, List.getElem?_cons_succ, List.set_cons_zero, List.set_cons_succ, Nat.reduceLT, Nat.reduceAdd, Nat.reduceSub, Option.map_some, finF, outsE, e_frz, d_rng7, e_forK, e_tnN, e_tnC, e_tnB, e_tnR, e_whT, e_whF, e_Raise, e_Par, e_parK, e_parK2, e_augK, e_Ch, e_chK1, e_chK2, e_chT, e_chF, e_Try, e_tryO, e_tru, e_While, e_abs, e_max2, e_min2, e_gSq2, e_tup1, e_lst1, e_tup2, e_lst2, e_tup3, e_lst3, e_tup4, e_lst4, e_tup5, e_lst5, e_tup6, e_lst6, e_tup7, e_lst7, e_tup8, e_lst8, e_aIo (m := m), e_aIo (m := m1), stepO2 (m := m), stepO2 (m := m1), e1, e2, ha, Int.reduceSub, Hop.d]
theorem pick_ok {m : M} (hm : Good m) (x0 x1 x2 x3 x4 : D) : ∃ (x : D) (m' : M), m__law_pick [.ow m, .sh (.lst [x0, x1, x2, x3, x4])] = .ok (.sh x) [m'] ∧ Good m' ∧ (x = x0 ∨ x = x1 ∨ x = x2 ∨ x = x3 ∨ x = x4) := by
  obtain ⟨a, m1, e1, g1, a0, a1⟩ := tk (n := 5) hm (by decide)
  have hl : (([x0, x1, x2, x3, x4] : List D).length : Int) = 5 := rfl
  have go : ∀ x, vIxI (.lst [x0, x1, x2, x3, x4]) (.int a) = some x → m__law_pick [.ow m, .sh (.lst [x0, x1, x2, x3, x4])] = .ok (.sh x) [m1] := fun x hx => by
    refine (e_run [0] 2 _ _ rfl).trans ?_
    unfold b__law_pick
    have hlen : fLen [.lst [x0, x1, x2, x3, x4]] = some (.int 5) := rfl
    simp only [e_Ret, e_op, e_var, e_lookS, e_bind, e_op2, e_Call, e_aIo (m := m), e_aVal, e_B, e_Cons, e_consK, e_Nil, e_consK2, e_bK, hlen, e_of, e_aVK, e_aNil, e_aVK2, stepO2 (m := m), e1, outO2, e_onSh, e_op1, hx, e_retK, finF, outsE, startE, List.length, List.replicate, List.map, List.cons_append, List.nil_append, List.getElem?_cons_zero, List.getElem?_cons_succ, List.set_cons_zero, List.set_cons_succ, Nat.reduceSub, Nat.reduceAdd, Option.map_some]
  have : a = 0 ∨ a = 1 ∨ a = 2 ∨ a = 3 ∨ a = 4 := by omega
  rcases this with rfl | rfl | rfl | rfl | rfl
  · exact ⟨x0, m1, go x0 rfl, g1, .inl rfl⟩
  · exact ⟨x1, m1, go x1 rfl, g1, .inr (.inl rfl)⟩
  · exact ⟨x2, m1, go x2 rfl, g1, .inr (.inr (.inl rfl))⟩
  · exact ⟨x3, m1, go x3 rfl, g1, .inr (.inr (.inr (.inl rfl)))⟩
  · exact ⟨x4, m1, go x4 rfl, g1, .inr (.inr (.inr (.inr rfl)))⟩
end L21
set_option Elab.async false
set_option linter.all false
set_option maxRecDepth 100000
set_option maxHeartbeats 4000000
namespace L21
open PySem L2 Rf Sv
theorem e_Sl (da : ENV → R D) (k : Int) (ρ : ENV) : dSl da dNoPart (dPart (dC (.int k))) ρ = (da ρ).bind (op1 fun x => vSl x none (some k)) := rfl
theorem no_lc (ρ : ENV) (a i : Nat) (l : List Int) (hl : l.length ≤ sizeLine) (hi : ρ[i]? = some none) (ha : ρ[a]? = some (some (.sh (tupI l)))) :
    fLc (dItems (dVar a)) (gSet i) (dNot (dTru (dCall m__law_whole (aVal (dVar i) (aNil))))) (dVar i) [i] ρ = .ok (.lst []) ρ := by
  have hil := (List.getElem?_eq_some_iff.mp hi).1
  have := lc_filtI (ρ := ρ) (i := i) (ns := l) (tt := dNot (dTru (dCall m__law_whole (aVal (dVar i) (aNil))))) (te := dVar i) (di := dItems (dVar a)) (fun _ => false) id (by simp only [e_Items, e_var, ha, e_lookS, e_bind, t_itm]) hi (fun n hn => by
      have e1 : (ρ.set i (some (.sh (.int n))))[i]? = some (some (.sh (.int n))) := List.getElem?_set_self hil
      simp only [startE, List.map, List.length, List.replicate, e_Seq, e_Asg, e_Ret, e_RetF, e_Expr, e_exprK, e_op, e_op2, e_op1, e_un, e_is, e_B, e_bK, e_Cons, e_consK, e_consK2, e_Nil, e_var, e_C, e_bind, e_bindX, e_bindB, e_lookS, e_lookO, M.toD, e_of, e_asgK, e_gSet, e_stK, e_sqN, e_sqR, e_sqB, e_sqC, e_sNil, e_retK, e_retFK, e_add, e_vI, e_neg, e_fInt, e_fIntB, e_sIf, e_sifT, e_sifF, e_T, e_toB, e_Tru, e_truB, e_And, e_Or, e_andT, e_andF, e_orT, e_orF, e_Not, e_notK, e_AndV, e_OrV, e_andVT, e_andVF, e_orVT, e_orVF, e_NotV, e_notVK, e_If, e_ifT, e_ifF, e_Tup, e_Lst, e_LstF, e_tup0, e_lst0, e_lstF0, e_eqI, e_neI, e_ltI, e_leI, e_gtI, e_geI, e_lenL, e_lenT, e_lenR, e_lenS, e_ixL, e_ixT, at0, at1, at2, at3, e_tupL, e_tupT, e_lstT, e_Own, e_ownK, e_Sub, e_For, e_Items, e_itL, e_itT, e_itR, e_Call, e_CallF, e_aNil, e_aVal, e_aVK, e_aVK2, step0, step1, step2, step3, out0, out1, out2, out3, outX1, outX2, outO1, outO2, outO3, e_onSh, e_onOw, decide_true, decide_false, Bool.not_true, Bool.not_false, List.cons_append, List.nil_append, List.getElem?_cons_zero, List.getElem?_cons_succ, List.set_cons_zero, List.set_cons_succ, Nat.reduceLT, Nat.reduceAdd, Nat.reduceSub, Option.map_some, finF, outsE, e_frz, d_rng7, e_forK, e_tnN, e_tnC, e_tnB, e_tnR, e_whT, e_whF, e_Raise, e_Par, e_parK, e_parK2, e_augK, e_Ch, e_chK1, e_chK2, e_chT, e_chF, e_Try, e_tryO, e_tru, e_While, e_abs, e_max2, e_min2, e_gSq2, e_tup1, e_lst1, e_tup2, e_lst2, e_tup3, e_lst3, e_tup4, e_lst4, e_tup5, e_lst5, e_tup6, e_lst6, e_tup7, e_lst7, e_tup8, e_lst8, e1, whole_ok]) (fun n hn h => by cases h) hl
  rw [this, List.filter_eq_nil_iff.mpr fun a _ => by decide]
  rfl
theorem ne_nil : CK.f .ne (.lst []) (.lst []) = some (.bl false) := by kernel_rfl
theorem lst7 {l : List Int} (h : l.length = 7) : ∃ a b c d e f g, l = [a, b, c, d, e, f, g] := by
  match l, h with
  | [a, b, c, d, e, f, g], _ => exact ⟨a, b, c, d, e, f, g, rfl⟩
theorem sl6 (a b c d e f g : Int) : vSl (tupI [a, b, c, d, e, f, g]) none (some 6) = some (.tup [.int a, .int b, .int c, .int d, .int e, .int f]) := by kernel_rfl
theorem add8 (a b c d e f g : Int) : vAdd (tupI [a, b, c, d, e, f, g]) (.tup [.int 1]) = some (.tup [.int a, .int b, .int c, .int d, .int e, .int f, .int g, .int 1]) := by kernel_rfl
theorem add7 (a b c d e f : Int) : vAdd (.tup [.int a, .int b, .int c, .int d, .int e, .int f]) (.tup [.bl true]) = some (.tup [.int a, .int b, .int c, .int d, .int e, .int f, .bl true]) := by kernel_rfl
theorem turn_ok (p : D) (t : Int) (h0 : 0 ≤ t) (h3 : t ≤ 3) {m : M} (hm : Good m) (x3 x4 x5 x6 x7 x8 x9 x10 : Option DV) : ∃ (m' : M) (y3 y4 y5 y6 y7 y8 y9 y10 : Option DV), Good m' ∧ ((sSeq (sAsg (dCall m__law_sevens (aIo 1 (aVal (dIf (dT (dCmp .lt (dVar 2) (dC (.int 2)))) (dC (.int 2900)) (dC (.int 70))) (aNil)))) (gSet 3))
  (sSeq (sAsg (dCall m__law_near (aIo 1 (aVal (dVar 3) (aNil)))) (gSet 4))
  (sSeq (sAsg (dB fTuple (dCons ((fun ρ => frz ((fLc (dRng1 (dC (.int 7))) (gSet 11) (dT (dCmp .eq (dIx (dVar 3) (dVar 11)) (dIx (dVar 4) (dVar 11)))) (dVar 11) [11]) ρ))) (dNil))) (gSet 5))
  (sSeq (sAsg (dCall m_rests_alike (aVal (dVar 3) (aVal (dVar 4) (aNil)))) (gSet 6))
  (sSeq (sIf (dOr (dT (dCmp .ne (dVar 6) (dVar 5))) (dOr (dT (dCmp .ne ((fun ρ => frz ((fLc (dItems (dVar 6)) (gSet 11) (dNot (dTru (dCall m__law_whole (aVal (dVar 11) (aNil))))) (dVar 11) [11]) ρ))) (dLst (dNil)))) (dT (dCmp .ne (dCall m_rests_alike (aVal (dVar 4) (aVal (dVar 3) (aNil)))) (dVar 5))))) (sRet (dC (.bl false))) (sNil))
  (sSeq (sIf (dT (dCmp .ne (dB fLen (dCons (dVar 6) (dNil))) (dCall m__law_most (aVal (dVar 3) (aVal (dVar 4) (aNil)))))) (sRet (dC (.bl false))) (sNil))
  (sSeq (sFor (dItems (dLst (dCons (dVar 3) (dCons (dCall m__law_hopped (aVal (dVar 3) (aVal (dTup (dCons (dC (.str "plus")) (dCons (dVar 2) (dNil)))) (aNil)))) (dNil))))) (gSet 7) (sIf (dNot (dTru (dCall m__law_good_hops (aVal (dVar 7) (aVal (dCall m_least_hops (aVal (dVar 7) (aNil))) (aNil)))))) (sRet (dC (.bl false))) (sNil)))
  (sSeq (sAsg (dCall m__law_hop (aIo 1 (aNil))) (gSet 8))
  (sSeq (sAsg (dCall m__law_hopped (aVal (dCall m__law_hopped (aVal (dCall m__law_even (aVal (dC (.int 0)) (aNil))) (aVal (dVar 8) (aNil)))) (aVal (dCall m__law_hop (aIo 1 (aNil))) (aNil)))) (gSet 9))
  (sSeq (sIf (dOr (dT (dCmp .gt (dB fLen (dCons (dCall m_least_hops (aVal (dVar 9) (aNil))) (dNil))) (dC (.int 2)))) (dT (dCmp .gt (dB fLen (dCons (dCall m_least_hops (aVal (dCall m__law_hopped (aVal (dCall m__law_even (aVal (dC (.int 0)) (aNil))) (aVal (dVar 8) (aNil)))) (aNil))) (dNil))) (dC (.int 1))))) (sRet (dC (.bl false))) (sNil))
  (sSeq (sAsg (dCall m__law_pick (aIo 1 (aVal (dLst (dCons (dB fList (dCons (dVar 3) (dNil))) (dCons (dSl (dVar 3) (dNoPart) (dPart (dC (.int 6)))) (dCons (dAdd (dVar 3) (dTup (dCons (dC (.int 1)) (dNil)))) (dCons (dAdd (dSl (dVar 3) (dNoPart) (dPart (dC (.int 6)))) (dTup (dCons (dC (.bl true)) (dNil)))) (dCons (dC .non) (dNil))))))) (aNil)))) (gSet 10))
  (sIf (dOr (dNot (dTru (dCall m__law_refused (aVal (dVar 10) (aVal (dVar 3) (aNil)))))) (dNot (dTru (dCall m__law_refused (aVal (dVar 4) (aVal (dVar 10) (aNil))))))) (sRet (dC (.bl false))) (sNil)))))))))))))) [some (.sh p), some (.ow m), some (.sh (.int t)), x3, x4, x5, x6, x7, x8, x9, x10, none] = .ok .nx [some (.sh p), some (.ow m'), some (.sh (.int t)), y3, y4, y5, y6, y7, y8, y9, y10, none] := by
  obtain ⟨s, m1, e1, g1, hs, hn⟩ : ∃ s m', m__law_sevens [.ow m, .sh (if t < 2 then .int 2900 else .int 70)] = .ok (.sh (tupI (Sh.lst s))) [m'] ∧ Good m' ∧ s.fit 2900 ∧ True := by
    split
    · obtain ⟨s, m1, e1, g1, hs⟩ := sevens_ok (n := 2900) hm (by decide) (by decide)
      exact ⟨s, m1, e1, g1, hs, trivial⟩
    · obtain ⟨s, m1, e1, g1, hs⟩ := sevens_ok (n := 70) hm (by decide) (by decide)
      exact ⟨s, m1, e1, g1, Sh.mono hs (by decide), trivial⟩
  obtain ⟨u, m2, e2, g2, hu⟩ := near_ok g1 hs
  have hs4 : s.fit 4000 := Sh.mono hs (by decide)
  have hp := hopped_ok hs (h := .pl t) trivial
  have hpf : (s.hop (.pl t)).fit 4000 := Sh.mono (hop_fit hs (h := .pl t) ⟨by omega, by omega⟩) (by decide)
  have q1 := least_ok hs4
  have q2 := least_ok hpf
  have q3 := good_ok hs4
  have q4 := good_ok hpf
  obtain ⟨g, m3, e3, g3, hg⟩ := hop_ok g2
  obtain ⟨h, m4, e4, g4, hh⟩ := hop_ok g3
  have z0 : (Sh.ev 0).fit 0 := ⟨by decide, by decide⟩
  have z1 : ((Sh.ev 0).hop g).fit 30 := hop_fit z0 hg
  have z2 : (((Sh.ev 0).hop g).hop h).fit 60 := hop_fit z1 hh
  have k1 : m__law_hopped [.sh (tupI (evens 0)), .sh g.d] = .ok (.sh (tupI ((Sh.ev 0).hop g).lst)) [] := hopped_ok z0 (hop_w hg)
  have k2 := hopped_ok z1 (hop_w hh)
  have q5 := least_ok (Sh.mono z1 (show (30 : Int) ≤ 4000 by decide))
  have q6 := least_ok (Sh.mono z2 (show (60 : Int) ≤ 4000 by decide))
  have l5 : decide (1 < (((least ((Sh.ev 0).hop g)).map Hop.d).length : Int)) = false := by
    rw [List.length_map, least_len (Sh.mono z1 (show (30 : Int) ≤ 4000 by decide))]
    exact decide_eq_false (by have := few1 hg; omega)
  have l6 : decide (2 < (((least (((Sh.ev 0).hop g).hop h)).map Hop.d).length : Int)) = false := by
    rw [List.length_map, least_len (Sh.mono z2 (show (60 : Int) ≤ 4000 by decide))]
    exact decide_eq_false (by have := few2 hg hh; omega)
  obtain ⟨a0, a1, a2, a3, a4, a5, a6, hl⟩ := lst7 s.len
  have b1 := sl6 a0 a1 a2 a3 a4 a5 a6
  have b2 := add8 a0 a1 a2 a3 a4 a5 a6
  have b3 := add7 a0 a1 a2 a3 a4 a5
  rw [← hl] at b1 b2
  obtain ⟨x, m5, e5, g5, hx⟩ := pick_ok g4 (.lst (s.lst.map D.int)) (.tup [.int a0, .int a1, .int a2, .int a3, .int a4, .int a5]) (.tup [.int a0, .int a1, .int a2, .int a3, .int a4, .int a5, .int a6, .int 1]) (.tup [.int a0, .int a1, .int a2, .int a3, .int a4, .int a5, .bl true]) .non
  have hbad : Bad x := by
    rcases hx with rfl | rfl | rfl | rfl | rfl
    · rw [hl]; exact .lst ..
    · exact .six ..
    · exact .eight ..
    · exact .tru ..
    · exact .non
  have w1 := alike_ok hs hu
  have w2 := alike_ok hu hs
  rw [alike_comm] at w2
  have w3 := m__most_ok hs hu
  have r1 : m__law_refused [.sh x, .sh (tupI s.lst)] = .ok (.sh (.bl true)) [] := refused1 hbad
  have r2 := refused2 hu hbad
  have c1 := alike_lc [some (.sh p), some (.ow m2), some (.sh (.int t)), some (.sh (tupI s.lst)), some (.sh (tupI u.lst)), x5, x6, x7, x8, x9, x10, none] 11 3 4 s.lst u.lst s.len u.len rfl rfl rfl
  have c2 := no_lc [some (.sh p), some (.ow m2), some (.sh (.int t)), some (.sh (tupI s.lst)), some (.sh (tupI u.lst)), some (.sh (tupI (alike s.lst u.lst))), some (.sh (tupI (alike s.lst u.lst))), x7, x8, x9, x10, none] 6 11 (alike s.lst u.lst) (Nat.le_trans (List.length_filter_le _ _) (show R7.length ≤ sizeLine from seven_line)) rfl rfl
  simp only [Hop.d] at hp
  have bb : ∀ n : Nat, ((n : Int) == (n : Int)) = true := fun n => beq_self_eq_true _
  refine ⟨m5, some (.sh (tupI s.lst)), some (.sh (tupI u.lst)), some (.sh (tupI (alike s.lst u.lst))), some (.sh (tupI (alike s.lst u.lst))), some (.sh (tupI (s.hop (.pl t)).lst)), some (.sh g.d), some (.sh (tupI (((Sh.ev 0).hop g).hop h).lst)), some (.sh x), g5, ?_⟩
  generalize hA : alike s.lst u.lst = A at *
  generalize hB1 : (least s).map Hop.d = L1 at *
  generalize hB2 : (least (s.hop (.pl t))).map Hop.d = L2 at *
  generalize hB3 : (least ((Sh.ev 0).hop g)).map Hop.d = L3 at *
  generalize hB4 : (least (((Sh.ev 0).hop g).hop h)).map Hop.d = L4 at *
  generalize hC1 : (s.hop (.pl t)).lst = S1 at *
  generalize hC2 : ((Sh.ev 0).hop g).lst = S2 at *
  generalize hC3 : (((Sh.ev 0).hop g).hop h).lst = S3 at *
  generalize hC4 : s.lst = S at *
  generalize hC5 : u.lst = U at *
  generalize hD : g.d = gd at *
  generalize hD2 : h.d = hd at *
  by_cases ht : t < 2
  · rw [if_pos ht] at e1
    simp only [startE, List.map, List.length, List.replicate, e_Seq, e_Asg, e_Ret, e_RetF, e_Expr, e_exprK, e_op, e_op2, e_op1, e_un, e_is, e_B, e_bK, e_Cons, e_consK, e_consK2, e_Nil, e_var, e_C, e_bind, e_bindX, e_bindB, e_lookS, e_lookO, M.toD, e_of, e_asgK, e_gSet, e_stK, e_sqN, e_sqR, e_sqB, e_sqC, e_sNil, e_retK, e_retFK, e_add, e_vI, e_neg, e_fInt, e_fIntB, e_sIf, e_sifT, e_sifF, e_T, e_toB, e_Tru, e_truB, e_And, e_Or, e_andT, e_andF, e_orT, e_orF, e_Not, e_notK, e_AndV, e_OrV, e_andVT, e_andVF, e_orVT, e_orVF, e_NotV, e_notVK, e_If, e_ifT, e_ifF, e_Tup, e_Lst, e_LstF, e_tup0, e_lst0, e_lstF0, e_eqI, e_neI, e_ltI, e_leI, e_gtI, e_geI, e_lenL, e_lenT, e_lenR, e_lenS, e_ixL, e_ixT, at0, at1, at2, at3, e_tupL, e_tupT, e_lstT, e_Own, e_ownK, e_Sub, e_For, e_Items, e_itL, e_itT, e_itR, e_Call, e_CallF, e_aNil, e_aVal, e_aVK, e_aVK2, step0, step1, step2, step3, out0, out1, out2, out3, outX1, outX2, outO1, outO2, outO3, e_onSh, e_onOw, decide_true, decide_false, Bool.not_true, Bool.not_false, List.cons_append, List.nil_append, List.getElem?_cons_zero, List.getElem?_cons_succ, List.set_cons_zero, List.set_cons_succ, Nat.reduceLT, Nat.reduceAdd, Nat.reduceSub, Option.map_some, finF, outsE, e_frz, d_rng7, e_forK, e_tnN, e_tnC, e_tnB, e_tnR, e_whT, e_whF, e_Raise, e_Par, e_parK, e_parK2, e_augK, e_Ch, e_chK1, e_chK2, e_chT, e_chF, e_Try, e_tryO, e_tru, e_While, e_abs, e_max2, e_min2, e_gSq2, e_tup1, e_lst1, e_tup2, e_lst2, e_tup3, e_lst3, e_tup4, e_lst4, e_tup5, e_lst5, e_tup6, e_lst6, e_tup7, e_lst7, e_tup8, e_lst8, t_fld, t_eq, t_ne, t_len, t_is, t_itm, t_of, t_of2, t_lst, ht, e_aIo (m := m), e_aIo (m := m1), e_aIo (m := m2), e_aIo (m := m3), e_aIo (m := m4), stepO2 (m := m), stepO2 (m := m1), stepO1 (m := m2), stepO1 (m := m3), stepO2 (m := m4), e1, e2, c1, w1, w2, c2, ne_nil, w3, bb, forL_set, forL_nil, hp, q1, q2, q3, q4, e3, e4, even_ok, k1, k2, q5, q6, l5, l6, e_Sl, b1, b2, b3, e5, r1, r2]
  · rw [if_neg ht] at e1
    simp only [startE, List.map, List.length, List.replicate, e_Seq, e_Asg, e_Ret, e_RetF, e_Expr, e_exprK, e_op, e_op2, e_op1, e_un, e_is, e_B, e_bK, e_Cons, e_consK, e_consK2, e_Nil, e_var, e_C, e_bind, e_bindX, e_bindB, e_lookS, e_lookO, M.toD, e_of, e_asgK, e_gSet, e_stK, e_sqN, e_sqR, e_sqB, e_sqC, e_sNil, e_retK, e_retFK, e_add, e_vI, e_neg, e_fInt, e_fIntB, e_sIf, e_sifT, e_sifF, e_T, e_toB, e_Tru, e_truB, e_And, e_Or, e_andT, e_andF, e_orT, e_orF, e_Not, e_notK, e_AndV, e_OrV, e_andVT, e_andVF, e_orVT, e_orVF, e_NotV, e_notVK, e_If, e_ifT, e_ifF, e_Tup, e_Lst, e_LstF, e_tup0, e_lst0, e_lstF0, e_eqI, e_neI, e_ltI, e_leI, e_gtI, e_geI, e_lenL, e_lenT, e_lenR, e_lenS, e_ixL, e_ixT, at0, at1, at2, at3, e_tupL, e_tupT, e_lstT, e_Own, e_ownK, e_Sub, e_For, e_Items, e_itL, e_itT, e_itR, e_Call, e_CallF, e_aNil, e_aVal, e_aVK, e_aVK2, step0, step1, step2, step3, out0, out1, out2, out3, outX1, outX2, outO1, outO2, outO3, e_onSh, e_onOw, decide_true, decide_false, Bool.not_true, Bool.not_false, List.cons_append, List.nil_append, List.getElem?_cons_zero, List.getElem?_cons_succ, List.set_cons_zero, List.set_cons_succ, Nat.reduceLT, Nat.reduceAdd, Nat.reduceSub, Option.map_some, finF, outsE, e_frz, d_rng7, e_forK, e_tnN, e_tnC, e_tnB, e_tnR, e_whT, e_whF, e_Raise, e_Par, e_parK, e_parK2, e_augK, e_Ch, e_chK1, e_chK2, e_chT, e_chF, e_Try, e_tryO, e_tru, e_While, e_abs, e_max2, e_min2, e_gSq2, e_tup1, e_lst1, e_tup2, e_lst2, e_tup3, e_lst3, e_tup4, e_lst4, e_tup5, e_lst5, e_tup6, e_lst6, e_tup7, e_lst7, e_tup8, e_lst8, t_fld, t_eq, t_ne, t_len, t_is, t_itm, t_of, t_of2, t_lst, ht, e_aIo (m := m), e_aIo (m := m1), e_aIo (m := m2), e_aIo (m := m3), e_aIo (m := m4), stepO2 (m := m), stepO2 (m := m1), stepO1 (m := m2), stepO1 (m := m3), stepO2 (m := m4), e1, e2, c1, w1, w2, c2, ne_nil, w3, bb, forL_set, forL_nil, hp, q1, q2, q3, q4, e3, e4, even_ok, k1, k2, q5, q6, l5, l6, e_Sl, b1, b2, b3, e5, r1, r2]
theorem turns_ok (p : D) : ∀ (ts : List Int), (∀ t ∈ ts, 0 ≤ t ∧ t ≤ 3) → ∀ {m : M}, Good m → ∀ (x2 x3 x4 x5 x6 x7 x8 x9 x10 : Option DV), ∃ (m' : M) (y2 y3 y4 y5 y6 y7 y8 y9 y10 : Option DV), Good m' ∧ forL (gSet 2) ((sSeq (sAsg (dCall m__law_sevens (aIo 1 (aVal (dIf (dT (dCmp .lt (dVar 2) (dC (.int 2)))) (dC (.int 2900)) (dC (.int 70))) (aNil)))) (gSet 3))
  (sSeq (sAsg (dCall m__law_near (aIo 1 (aVal (dVar 3) (aNil)))) (gSet 4))
  (sSeq (sAsg (dB fTuple (dCons ((fun ρ => frz ((fLc (dRng1 (dC (.int 7))) (gSet 11) (dT (dCmp .eq (dIx (dVar 3) (dVar 11)) (dIx (dVar 4) (dVar 11)))) (dVar 11) [11]) ρ))) (dNil))) (gSet 5))
  (sSeq (sAsg (dCall m_rests_alike (aVal (dVar 3) (aVal (dVar 4) (aNil)))) (gSet 6))
  (sSeq (sIf (dOr (dT (dCmp .ne (dVar 6) (dVar 5))) (dOr (dT (dCmp .ne ((fun ρ => frz ((fLc (dItems (dVar 6)) (gSet 11) (dNot (dTru (dCall m__law_whole (aVal (dVar 11) (aNil))))) (dVar 11) [11]) ρ))) (dLst (dNil)))) (dT (dCmp .ne (dCall m_rests_alike (aVal (dVar 4) (aVal (dVar 3) (aNil)))) (dVar 5))))) (sRet (dC (.bl false))) (sNil))
  (sSeq (sIf (dT (dCmp .ne (dB fLen (dCons (dVar 6) (dNil))) (dCall m__law_most (aVal (dVar 3) (aVal (dVar 4) (aNil)))))) (sRet (dC (.bl false))) (sNil))
  (sSeq (sFor (dItems (dLst (dCons (dVar 3) (dCons (dCall m__law_hopped (aVal (dVar 3) (aVal (dTup (dCons (dC (.str "plus")) (dCons (dVar 2) (dNil)))) (aNil)))) (dNil))))) (gSet 7) (sIf (dNot (dTru (dCall m__law_good_hops (aVal (dVar 7) (aVal (dCall m_least_hops (aVal (dVar 7) (aNil))) (aNil)))))) (sRet (dC (.bl false))) (sNil)))
  (sSeq (sAsg (dCall m__law_hop (aIo 1 (aNil))) (gSet 8))
  (sSeq (sAsg (dCall m__law_hopped (aVal (dCall m__law_hopped (aVal (dCall m__law_even (aVal (dC (.int 0)) (aNil))) (aVal (dVar 8) (aNil)))) (aVal (dCall m__law_hop (aIo 1 (aNil))) (aNil)))) (gSet 9))
  (sSeq (sIf (dOr (dT (dCmp .gt (dB fLen (dCons (dCall m_least_hops (aVal (dVar 9) (aNil))) (dNil))) (dC (.int 2)))) (dT (dCmp .gt (dB fLen (dCons (dCall m_least_hops (aVal (dCall m__law_hopped (aVal (dCall m__law_even (aVal (dC (.int 0)) (aNil))) (aVal (dVar 8) (aNil)))) (aNil))) (dNil))) (dC (.int 1))))) (sRet (dC (.bl false))) (sNil))
  (sSeq (sAsg (dCall m__law_pick (aIo 1 (aVal (dLst (dCons (dB fList (dCons (dVar 3) (dNil))) (dCons (dSl (dVar 3) (dNoPart) (dPart (dC (.int 6)))) (dCons (dAdd (dVar 3) (dTup (dCons (dC (.int 1)) (dNil)))) (dCons (dAdd (dSl (dVar 3) (dNoPart) (dPart (dC (.int 6)))) (dTup (dCons (dC (.bl true)) (dNil)))) (dCons (dC .non) (dNil))))))) (aNil)))) (gSet 10))
  (sIf (dOr (dNot (dTru (dCall m__law_refused (aVal (dVar 10) (aVal (dVar 3) (aNil)))))) (dNot (dTru (dCall m__law_refused (aVal (dVar 4) (aVal (dVar 10) (aNil))))))) (sRet (dC (.bl false))) (sNil)))))))))))))) (ts.map D.int) [some (.sh p), some (.ow m), x2, x3, x4, x5, x6, x7, x8, x9, x10, none] = .ok .nx [some (.sh p), some (.ow m'), y2, y3, y4, y5, y6, y7, y8, y9, y10, none]
  | [], _, m, hm, x2, x3, x4, x5, x6, x7, x8, x9, x10 => ⟨m, x2, x3, x4, x5, x6, x7, x8, x9, x10, hm, rfl⟩
  | t :: ts, hts, m, hm, x2, x3, x4, x5, x6, x7, x8, x9, x10 => by
    obtain ⟨m1, y3, y4, y5, y6, y7, y8, y9, y10, g1, e1⟩ := turn_ok p t (hts t List.mem_cons_self).1 (hts t List.mem_cons_self).2 hm x3 x4 x5 x6 x7 x8 x9 x10
    obtain ⟨m2, z2, z3, z4, z5, z6, z7, z8, z9, z10, g2, e2⟩ := turns_ok p ts (fun u hu => hts u (List.mem_cons_of_mem _ hu)) g1 (some (.sh (.int t))) y3 y4 y5 y6 y7 y8 y9 y10
    refine ⟨m2, z2, z3, z4, z5, z6, z7, z8, z9, z10, g2, ?_⟩
    rw [← e2]
    show forL _ _ (D.int t :: ts.map D.int) _ = _
    rw [forL_set 2 _ _ _ _ (by show 2 < 12; decide)]
    simp only [List.set_cons_zero, List.set_cons_succ]
    rw [e1]
    rfl
theorem rng4 : rng 0 4 = [0, 1, 2, 3].map D.int := by kernel_rfl
theorem d_rng4 (ρ : ENV) : dRng1 (dC (.int 4)) ρ = .ok ([0, 1, 2, 3].map D.int) ρ := by
  show (if rngOk 4 = true then R.ok (rng 0 4) ρ else .bot) = _
  rw [if_pos (by decide), rng4]
theorem end1 : m_least_hops [.sh (tupI (evens 0))] = .ok (.sh (.tup [])) [] := least_ok (s := .ev 0) ⟨by decide, by decide⟩
theorem end2 : m_rests_alike [.sh (tupI (evens 0)), .sh (tupI (evens 0))] = .ok (.sh (tupI R7)) [] := alike_ok (s := .ev 0) (t := .ev 0) (B := 0) (C := 0) ⟨by decide, by decide⟩ ⟨by decide, by decide⟩
theorem eq_nil : CK.f .eq (.tup []) (.tup []) = some (.bl true) := by kernel_rfl
theorem eq_r7 : CK.f .eq (tupI R7) (.tup [.int 0, .int 1, .int 2, .int 3, .int 4, .int 5, .int 6]) = some (.bl true) := by
  rw [show D.tup [.int 0, .int 1, .int 2, .int 3, .int 4, .int 5, .int 6] = tupI R7 from rfl, t_eq, decide_eq_true rfl]
theorem law_true (ns : List Int) (hn : ns.length ≤ 63) : m_law [.sh (.scr (ns.map D.int))] = .ok (.sh (.bl true)) [] := by
  obtain ⟨m, e1, g1⟩ := hand_ok ns hn
  obtain ⟨m2, y2, y3, y4, y5, y6, y7, y8, y9, y10, g2, e2⟩ := turns_ok (.scr (ns.map D.int)) [0, 1, 2, 3] (by decide) g1 none none none none none none none none none
  refine (e_run [] 12 _ _ rfl).trans ?_
  unfold b_law
  generalize hS : D.scr (ns.map D.int) = S at *
  generalize hT : [0, 1, 2, 3].map D.int = T at *
  have hd : dRng1 (dC (.int 4)) = fun ρ => .ok T ρ := by rw [← hT]; exact funext d_rng4
  simp only [startE, List.map, List.length, List.replicate, e_Seq, e_Asg, e_Ret, e_RetF, e_Expr, e_exprK, e_op, e_op2, e_op1, e_un, e_is, e_B, e_bK, e_Cons, e_consK, e_consK2, e_Nil, e_var, e_C, e_bind, e_bindX, e_bindB, e_lookS, e_lookO, M.toD, e_of, e_asgK, e_gSet, e_stK, e_sqN, e_sqR, e_sqB, e_sqC, e_sNil, e_retK, e_retFK, e_add, e_vI, e_neg, e_fInt, e_fIntB, e_sIf, e_sifT, e_sifF, e_T, e_toB, e_Tru, e_truB, e_And, e_Or, e_andT, e_andF, e_orT, e_orF, e_Not, e_notK, e_AndV, e_OrV, e_andVT, e_andVF, e_orVT, e_orVF, e_NotV, e_notVK, e_If, e_ifT, e_ifF, e_Tup, e_Lst, e_LstF, e_tup0, e_lst0, e_lstF0, e_eqI, e_neI, e_ltI, e_leI, e_gtI, e_geI, e_lenL, e_lenT, e_lenR, e_lenS, e_ixL, e_ixT, at0, at1, at2, at3, e_tupL, e_tupT, e_lstT, e_Own, e_ownK, e_Sub, e_For, e_Items, e_itL, e_itT, e_itR, e_Call, e_CallF, e_aNil, e_aVal, e_aVK, e_aVK2, step0, step1, step2, step3, out0, out1, out2, out3, outX1, outX2, outO1, outO2, outO3, e_onSh, e_onOw, decide_true, decide_false, Bool.not_true, Bool.not_false, List.cons_append, List.nil_append, List.getElem?_cons_zero, List.getElem?_cons_succ, List.set_cons_zero, List.set_cons_succ, Nat.reduceLT, Nat.reduceAdd, Nat.reduceSub, Option.map_some, finF, outsE, e_frz, d_rng7, e_forK, e_tnN, e_tnC, e_tnB, e_tnR, e_whT, e_whF, e_Raise, e_Par, e_parK, e_parK2, e_augK, e_Ch, e_chK1, e_chK2, e_chT, e_chF, e_Try, e_tryO, e_tru, e_While, e_abs, e_max2, e_min2, e_gSq2, e_tup1, e_lst1, e_tup2, e_lst2, e_tup3, e_lst3, e_tup4, e_lst4, e_tup5, e_lst5, e_tup6, e_lst6, e_tup7, e_lst7, e_tup8, e_lst8, e1, hd, e2, even_ok, end1, end2, eq_nil, eq_r7]
end L21
set_option Elab.async false
set_option linter.all false
set_option maxRecDepth 100000
set_option maxHeartbeats 4000000
namespace L21
open PySem PySem.Spec L2 Rf
def top (i : Nat) : Stmt := PySem.Challenge.pw_whosetomorrow_k21_whole_rests_alike_and.main.body.getD i (.Pass ⟨0, 0, 0, 0⟩)
structure Txt (K : PySem.W.Frag) (mg : Str → Option Value) (C : Nat → Addr) : Prop where
  b_abs : mg "abs" = none
  b_all : mg "all" = none
  b_bool : mg "bool" = none
  b_int : mg "int" = none
  b_isinstance : mg "isinstance" = none
  b_len : mg "len" = none
  b_list : mg "list" = none
  b_max : mg "max" = none
  b_min : mg "min" = none
  b_range : mg "range" = none
  b_tuple : mg "tuple" = none
  x_BadSevens : ExF K mg (C 1) "BadSevens"
  sb : ∀ i j b, subT i j = some b → PySem.W.exmOne K (.ref (C i)) (.ref (C j)) = some b
  g_MOST_PLUS : GC K mg C "MOST_PLUS" g_MOST_PLUS
  d__law_hand : Df K mg "_law_hand" (top 14) ["_law_script"]
  d__law_coming : Df K mg "_law_coming" (top 18) ["_law_day", "_law_weekday"]
  d__law_saw : Df K mg "_law_saw" (top 24) ["_law_weekday", "_law_m"]
  d__law_mixed : Df K mg "_law_mixed" (top 15) ["_law_number", "_law_turn"]
  d__law_take : Df K mg "_law_take" (top 16) ["_law_hand_here", "_law_many"]
  d__law_even : Df K mg "_law_even" (top 23) ["_law_k"]
  d__law_far : Df K mg "_law_far" (top 28) ["_law_hand_here", "_law_most_here"]
  d__law_sevens : Df K mg "_law_sevens" (top 29) ["_law_hand_here", "_law_most_here"]
  d__law_whole : Df K mg "_law_whole" (top 21) ["_law_thing"]
  d__law_shape : Df K mg "_law_shape" (top 25) ["_law_offsets"]
  d__law_near : Df K mg "_law_near" (top 30) ["_law_hand_here", "_law_offsets"]
  d_days_ahead : Df K mg "days_ahead" (top 8) ["w", "day"]
  d_saw_sevens : Df K mg "saw_sevens" (top 7) ["w", "m"]
  d_is_whole : Df K mg "is_whole" (top 4) ["thing"]
  d_shape_of_sevens : Df K mg "shape_of_sevens" (top 9) ["sevens"]
  d_rests_alike : Df K mg "rests_alike" (top 10) ["one", "other"]
  d__law_step : Df K mg "_law_step" (top 17) ["_law_hand_here"]
  d__law_hop : Df K mg "_law_hop" (top 26) ["_law_hand_here"]
  d__law_last : Df K mg "_law_last" (top 19) ["_law_day", "_law_weekday"]
  d__law_counted : Df K mg "_law_counted" (top 20) ["_law_day", "_law_word"]
  d__law_hopped : Df K mg "_law_hopped" (top 27) ["_law_offsets", "_law_hop_here"]
  d__law_pick : Df K mg "_law_pick" (top 22) ["_law_hand_here", "_law_things"]
  d__law_most : Df K mg "_law_most" (top 31) ["_law_one", "_law_other"]
  d_pluses_to : Df K mg "pluses_to" (top 11) ["k"]
  d_least_hops : Df K mg "least_hops" (top 12) ["sevens"]
  d__law_up : Df K mg "_law_up" (top 32) ["_law_number"]
  d__law_fewest : Df K mg "_law_fewest" (top 33) ["_law_offsets"]
  d__law_is_hop : Df K mg "_law_is_hop" (top 34) ["_law_hop_here"]
  d__law_good_hops : Df K mg "_law_good_hops" (top 35) ["_law_offsets", "_law_hops"]
  d__law_refused : Df K mg "_law_refused" (top 36) ["_law_one", "_law_other"]
  d_law : Df K mg "law" (top 37) ["_law_script"]
section
variable {P : Program} {w : World} {K : PySem.W.Frag} {mg : Str → Option Value} {base : Heap} {C : Nat → Addr}
abbrev s__law_hand : Stmt := top 14
def N__law_hand : List Str := ["_law_script", "_law_total", "_law_cells", "_law_cell"]
theorem sc__law_hand : FnScope N__law_hand ["_law_script"] (defScope s__law_hand) := ⟨rfl, rfl, rfl, by decide +kernel, rfl, by decide +kernel, by decide +kernel⟩
theorem k__law_hand (T : Txt K mg C) : Fk P w K mg base C "_law_hand" 1 1 m__law_hand := fk_of T.d__law_hand sc__law_hand [] (by decide) fun f cdv A outer s H E ad hr =>
  dss_cons (ds_set (i := 1) sc__law_hand.nd (de_add (de_B cr_lenS vb_len rfl T.b_len (by decide +kernel) (da_cons (de_var 0) (da_nil))) (de_int)))
  (dss_cons (ds_own (i := 2) sc__law_hand.nd (df_list (da_nil)))
  (dss_cons (ds_for (passes_of rfl) rfl (di_seq (de_var 0)) (dg_name (i := 3) sc__law_hand.nd rfl (by first | exact Or.inl rfl | exact Or.inr rfl) rfl) (dss_cons (ds_set (i := 1) sc__law_hand.nd (de_mod (de_T call_int1 vb_int rfl T.b_int (by decide +kernel) (da_cons (de_add (de_mul (de_var 1) (de_int)) (de_T call_int1 vb_int rfl T.b_int (by decide +kernel) (da_cons (de_var 3) (da_nil)))) (da_nil))) (de_int)))
  (dss_one (ds_app 2 (de_if (dt_c .ge (hu65 hr) (de_var 3) (de_int)) (de_T call_int1 vb_int rfl T.b_int (by decide +kernel) (da_cons (de_var 3) (da_nil))) (de_neg (de_T call_int1 vb_int rfl T.b_int (by decide +kernel) (da_cons (de_var 3) (da_nil)))))))))
  (dss_one (ds_retF (df_list (da_cons (de_var 2) (da_cons (de_int) (da_cons (de_int) (da_cons (de_var 1) (da_nil))))))))))
abbrev s__law_coming : Stmt := top 18
def N__law_coming : List Str := ["_law_day", "_law_weekday", "_law_turn"]
theorem sc__law_coming : FnScope N__law_coming ["_law_day", "_law_weekday"] (defScope s__law_coming) := ⟨rfl, rfl, rfl, by decide +kernel, rfl, by decide +kernel, by decide +kernel⟩
theorem k__law_coming (T : Txt K mg C) : Fk P w K mg base C "_law_coming" 2 1 m__law_coming := fk_of T.d__law_coming sc__law_coming [] (by decide) fun f cdv A outer s H E ad hr =>
  dss_cons (ds_for (passes_of rfl) rfl (di_rng1 rfl T.b_range (de_int)) (dg_name (i := 2) sc__law_coming.nd rfl (by first | exact Or.inl rfl | exact Or.inr rfl) rfl) (dss_cons (ds_set (i := 0) sc__law_coming.nd (de_add (de_var 0) (de_int)))
  (dss_one (ds_if (dt_c .eq (hu65 hr) (de_mod (de_T call_int1 vb_int rfl T.b_int (by decide +kernel) (da_cons (de_var 0) (da_nil))) (de_int)) (de_var 1)) (dss_one (ds_ret (de_var 0))) (dss_nil)))))
  (dss_one (ds_ret (de_var 0)))
abbrev s__law_saw : Stmt := top 24
def N__law_saw : List Str := ["_law_weekday", "_law_m", "_law_rest"]
theorem sc__law_saw : FnScope N__law_saw ["_law_weekday", "_law_m"] (defScope s__law_saw) := ⟨rfl, rfl, rfl, by decide +kernel, rfl, by decide +kernel, by decide +kernel⟩
theorem k__law_saw (T : Txt K mg C) (K__law_coming : Fk P w K mg base C "_law_coming" 2 1 m__law_coming) : Fk P w K mg base C "_law_saw" 2 2 m__law_saw := fk_of T.d__law_saw sc__law_saw [] (by decide) fun f cdv A outer s H E ad hr =>
  dss_one (ds_ret (de_T call_tuple_of vb_tuple rfl T.b_tuple (by decide +kernel) (da_cons (de_of (df_lc (own := [("_law_rest", 2)]) (sl := [2]) rfl sc__law_saw.nd (di_rng1 rfl T.b_range (de_int)) (blkOk_by (N := N__law_saw) (sc := defScope s__law_saw) (by decide +kernel)) (by decide) (fun _ _ _ _ _ => dg_name (i := 2) sc__law_saw.nd rfl (by first | exact Or.inl rfl | exact Or.inr rfl) rfl) (fun _ _ _ _ _ => dts_nil) (fun _ _ _ _ _ => de_sub (de_call (K__law_coming.callee (hr.mono (by decide))) takes0 (dag_val (de_add (de_var 2) (de_var 1)) (dag_val (de_var 0) (dag_nil))) (many_val (many_val (many_nil)))) (de_var 2)))) (da_nil))))
abbrev s__law_mixed : Stmt := top 15
def N__law_mixed : List Str := ["_law_number", "_law_turn", "_law_once", "_law_twice"]
theorem sc__law_mixed : FnScope N__law_mixed ["_law_number", "_law_turn"] (defScope s__law_mixed) := ⟨rfl, rfl, rfl, by decide +kernel, rfl, by decide +kernel, by decide +kernel⟩
theorem k__law_mixed (T : Txt K mg C) : Fk P w K mg base C "_law_mixed" 2 1 m__law_mixed := fk_of T.d__law_mixed sc__law_mixed [] (by decide) fun f cdv A outer s H E ad hr =>
  dss_cons (ds_set (i := 2) sc__law_mixed.nd (de_mod (de_T call_int1 vb_int rfl T.b_int (by decide +kernel) (da_cons (de_add (de_add (de_mul (de_var 0) (de_int)) (de_mul (de_var 1) (de_int))) (de_int)) (da_nil))) (de_int)))
  (dss_cons (ds_set (i := 3) sc__law_mixed.nd (de_mod (de_T call_int1 vb_int rfl T.b_int (by decide +kernel) (da_cons (de_add (de_add (de_mul (de_var 2) (de_var 2)) (de_mul (de_var 1) (de_int))) (de_div (de_var 2) (de_int))) (da_nil))) (de_int)))
  (dss_one (ds_ret (de_div (de_T call_int1 vb_int rfl T.b_int (by decide +kernel) (da_cons (de_mod (de_T call_int1 vb_int rfl T.b_int (by decide +kernel) (da_cons (de_add (de_mul (de_var 3) (de_int)) (de_div (de_var 2) (de_int))) (da_nil))) (de_int)) (da_nil))) (de_int)))))
abbrev s__law_take : Stmt := top 16
def N__law_take : List Str := ["_law_hand_here", "_law_many", "_law_cell", "_law_rest"]
theorem sc__law_take : FnScope N__law_take ["_law_hand_here", "_law_many"] (defScope s__law_take) := ⟨rfl, rfl, rfl, by decide +kernel, rfl, by decide +kernel, by decide +kernel⟩
theorem k__law_take (T : Txt K mg C) (K__law_mixed : Fk P w K mg base C "_law_mixed" 2 1 m__law_mixed) : Fk P w K mg base C "_law_take" 2 2 m__law_take := fk_of T.d__law_take sc__law_take [0] (by decide) fun f cdv A outer s H E ad hr =>
  dss_cons (ds_if (dt_w (dw_and (dt_c .eq (hu65 hr) (de_ixO 0 (de_int)) (de_int)) (dw_and1 (dt_c .lt (hu65 hr) (de_ixO 0 (de_int)) (de_B cr_lenS vb_len rfl T.b_len (by decide +kernel) (da_cons (de_ixO 0 (de_int)) (da_nil))))))) (dss_cons (ds_set (i := 2) sc__law_take.nd (de_ix (de_ixO 0 (de_int)) (de_ixO 0 (de_int))))
  (dss_cons (ds_sub 0 (de_add (de_ixO 0 (de_int)) (de_int)) (de_int))
  (dss_cons (ds_if (dt_c .lt (hu65 hr) (de_var 2) (de_pow (de_int) (de_int))) (dss_one (ds_ret (de_mod (de_T call_int1 vb_int rfl T.b_int (by decide +kernel) (da_cons (de_call (K__law_mixed.callee (hr.mono (by decide))) (takes_of rfl rfl rfl rfl) (dag_val (de_mod (de_T call_int1 vb_int rfl T.b_int (by decide +kernel) (da_cons (de_var 2) (da_nil))) (de_int)) (dag_val (de_ixO 0 (de_int)) (dag_nil))) (many_val (many_val (many_nil)))) (da_nil))) (de_var 1)))) (dss_nil))
  (dss_one (ds_sub 0 (de_var 2) (de_int)))))) (dss_nil))
  (dss_cons (ds_if (dt_c .gt (hu65 hr) (de_ixO 0 (de_int)) (de_int)) (dss_cons (ds_set (i := 3) sc__law_take.nd (de_ixO 0 (de_int)))
  (dss_cons (ds_sub 0 (de_div (de_T call_int1 vb_int rfl T.b_int (by decide +kernel) (da_cons (de_var 3) (da_nil))) (de_var 1)) (de_int))
  (dss_one (ds_ret (de_mod (de_T call_int1 vb_int rfl T.b_int (by decide +kernel) (da_cons (de_var 3) (da_nil))) (de_var 1)))))) (dss_nil))
  (dss_cons (ds_sub 0 (de_mod (de_T call_int1 vb_int rfl T.b_int (by decide +kernel) (da_cons (de_add (de_ixO 0 (de_int)) (de_int)) (da_nil))) (de_int)) (de_int))
  (dss_one (ds_ret (de_mod (de_T call_int1 vb_int rfl T.b_int (by decide +kernel) (da_cons (de_call (K__law_mixed.callee (hr.mono (by decide))) (takes_of rfl rfl rfl rfl) (dag_val (de_ixO 0 (de_int)) (dag_val (de_ixO 0 (de_int)) (dag_nil))) (many_val (many_val (many_nil)))) (da_nil))) (de_var 1))))))
abbrev s__law_even : Stmt := top 23
def N__law_even : List Str := ["_law_k"]
theorem sc__law_even : FnScope N__law_even ["_law_k"] (defScope s__law_even) := ⟨rfl, rfl, rfl, by decide +kernel, rfl, by decide +kernel, by decide +kernel⟩
theorem k__law_even (T : Txt K mg C) : Fk P w K mg base C "_law_even" 1 1 m__law_even := fk_of T.d__law_even sc__law_even [] (by decide) fun f cdv A outer s H E ad hr =>
  dss_one (ds_ret (de_tuple (da_cons (de_var 0) (da_cons (de_var 0) (da_cons (de_var 0) (da_cons (de_var 0) (da_cons (de_var 0) (da_cons (de_var 0) (da_cons (de_var 0) (da_nil))))))))))
abbrev s__law_far : Stmt := top 28
def N__law_far : List Str := ["_law_hand_here", "_law_most_here"]
theorem sc__law_far : FnScope N__law_far ["_law_hand_here", "_law_most_here"] (defScope s__law_far) := ⟨rfl, rfl, rfl, by decide +kernel, rfl, by decide +kernel, by decide +kernel⟩
theorem k__law_far (T : Txt K mg C) (K__law_take : Fk P w K mg base C "_law_take" 2 2 m__law_take) : Fk P w K mg base C "_law_far" 2 3 m__law_far := fk_of T.d__law_far sc__law_far [0] (by decide) fun f cdv A outer s H E ad hr =>
  dss_one (ds_ret (de_if (dt_tru (de_call (K__law_take.callee (hr.mono (by decide))) (takes_of rfl rfl rfl rfl) (dag_io 0 (dag_val (de_int) (dag_nil))) (many_io (many_val (many_nil))))) (de_sub (de_call (K__law_take.callee (hr.mono (by decide))) (takes_of rfl rfl rfl rfl) (dag_io 0 (dag_val (de_add (de_mul (de_int) (de_var 1)) (de_int)) (dag_nil))) (many_io (many_val (many_nil)))) (de_var 1)) (de_sub (de_call (K__law_take.callee (hr.mono (by decide))) (takes_of rfl rfl rfl rfl) (dag_io 0 (dag_val (de_int) (dag_nil))) (many_io (many_val (many_nil)))) (de_int))))
abbrev s__law_sevens : Stmt := top 29
def N__law_sevens : List Str := ["_law_hand_here", "_law_most_here"]
theorem sc__law_sevens : FnScope N__law_sevens ["_law_hand_here", "_law_most_here"] (defScope s__law_sevens) := ⟨rfl, rfl, rfl, by decide +kernel, rfl, by decide +kernel, by decide +kernel⟩
theorem k__law_sevens (T : Txt K mg C) (K__law_saw : Fk P w K mg base C "_law_saw" 2 2 m__law_saw) (K__law_take : Fk P w K mg base C "_law_take" 2 2 m__law_take) (K__law_even : Fk P w K mg base C "_law_even" 1 1 m__law_even) (K__law_far : Fk P w K mg base C "_law_far" 2 3 m__law_far) : Fk P w K mg base C "_law_sevens" 2 4 m__law_sevens := fk_of T.d__law_sevens sc__law_sevens [0] (by decide) fun f cdv A outer s H E ad hr =>
  dss_cons (ds_if (dt_c .eq (hu65 hr) (de_call (K__law_take.callee (hr.mono (by decide))) (takes_of rfl rfl rfl rfl) (dag_io 0 (dag_val (de_int) (dag_nil))) (many_io (many_val (many_nil)))) (de_int)) (dss_one (ds_ret (de_call (K__law_even.callee (hr.mono (by decide))) (takes_of rfl rfl rfl rfl) (dag_val (de_call (K__law_far.callee (hr.mono (by decide))) (takes_of rfl rfl rfl rfl) (dag_io 0 (dag_val (de_var 1) (dag_nil))) (many_io (many_val (many_nil)))) (dag_nil)) (many_val (many_nil))))) (dss_nil))
  (dss_one (ds_ret (de_call (K__law_saw.callee (hr.mono (by decide))) (takes_of rfl rfl rfl rfl) (dag_val (de_call (K__law_take.callee (hr.mono (by decide))) (takes_of rfl rfl rfl rfl) (dag_io 0 (dag_val (de_int) (dag_nil))) (many_io (many_val (many_nil)))) (dag_val (de_call (K__law_far.callee (hr.mono (by decide))) (takes_of rfl rfl rfl rfl) (dag_io 0 (dag_val (de_var 1) (dag_nil))) (many_io (many_val (many_nil)))) (dag_nil))) (many_val (many_val (many_nil))))))
abbrev s__law_whole : Stmt := top 21
def N__law_whole : List Str := ["_law_thing"]
theorem sc__law_whole : FnScope N__law_whole ["_law_thing"] (defScope s__law_whole) := ⟨rfl, rfl, rfl, by decide +kernel, rfl, by decide +kernel, by decide +kernel⟩
theorem k__law_whole (T : Txt K mg C) : Fk P w K mg base C "_law_whole" 1 1 m__law_whole := fk_of T.d__law_whole sc__law_whole [] (by decide) fun f cdv A outer s H E ad hr =>
  dss_one (ds_ret (de_and (de_isT (T := "int") rfl T.b_isinstance (by decide +kernel) rfl T.b_int (by decide +kernel) (de_var 0)) (de_one (de_not (de_isT (T := "bool") rfl T.b_isinstance (by decide +kernel) rfl T.b_bool (by decide +kernel) (de_var 0))))))
abbrev s__law_shape : Stmt := top 25
def N__law_shape : List Str := ["_law_offsets", "_law_offset", "_law_weekday", "_law_m"]
theorem sc__law_shape : FnScope N__law_shape ["_law_offsets"] (defScope s__law_shape) := ⟨rfl, rfl, rfl, by decide +kernel, rfl, by decide +kernel, by decide +kernel⟩
theorem k__law_shape (T : Txt K mg C) (K__law_even : Fk P w K mg base C "_law_even" 1 1 m__law_even) (K__law_whole : Fk P w K mg base C "_law_whole" 1 1 m__law_whole) (K__law_saw : Fk P w K mg base C "_law_saw" 2 2 m__law_saw) : Fk P w K mg base C "_law_shape" 1 3 m__law_shape := fk_of T.d__law_shape sc__law_shape [] (by decide) fun f cdv A outer s H E ad hr =>
  dss_cons (ds_if (dt_w (dw_or (dt_not (dt_tru (de_isT (T := "tuple") rfl T.b_isinstance (by decide +kernel) rfl T.b_tuple (by decide +kernel) (de_var 0)))) (dw_or1 (dt_c .ne (hu65 hr) (de_B cr_lenS vb_len rfl T.b_len (by decide +kernel) (da_cons (de_var 0) (da_nil))) (de_int))))) (dss_one (ds_ret (de_non))) (dss_nil))
  (dss_cons (ds_for (passes_of rfl) rfl (di_seq (de_var 0)) (dg_name (i := 1) sc__law_shape.nd rfl (by first | exact Or.inl rfl | exact Or.inr rfl) rfl) (dss_one (ds_if (dt_not (dt_tru (de_call (K__law_whole.callee (hr.mono (by decide))) (takes_of rfl rfl rfl rfl) (dag_val (de_var 1) (dag_nil)) (many_val (many_nil))))) (dss_one (ds_ret (de_non))) (dss_nil))))
  (dss_cons (ds_if (dt_c .eq (hu65 hr) (de_var 0) (de_call (K__law_even.callee (hr.mono (by decide))) (takes_of rfl rfl rfl rfl) (dag_val (de_ix (de_var 0) (de_int)) (dag_nil)) (many_val (many_nil)))) (dss_one (ds_ret (de_tuple (da_cons (de_str) (da_cons (de_ix (de_var 0) (de_int)) (da_nil)))))) (dss_nil))
  (dss_cons (ds_set (i := 2) sc__law_shape.nd (de_mod (de_T call_int1 vb_int rfl T.b_int (by decide +kernel) (da_cons (de_ix (de_var 0) (de_int)) (da_nil))) (de_int)))
  (dss_cons (ds_set (i := 3) sc__law_shape.nd (de_sub (de_B (cr_minS rfl (hu65 hr)) vb_min rfl T.b_min (by decide +kernel) (da_cons (de_var 0) (da_nil))) (de_int)))
  (dss_one (ds_ret (de_if (dt_c .eq (hu65 hr) (de_call (K__law_saw.callee (hr.mono (by decide))) (takes_of rfl rfl rfl rfl) (dag_val (de_var 2) (dag_val (de_var 3) (dag_nil))) (many_val (many_val (many_nil)))) (de_var 0)) (de_tuple (da_cons (de_str) (da_cons (de_var 2) (da_cons (de_var 3) (da_nil))))) (de_non))))))))
abbrev s__law_near : Stmt := top 30
def N__law_near : List Str := ["_law_hand_here", "_law_offsets", "_law_shape_here", "_law_way", "_law_shift", "_law_offset"]
theorem sc__law_near : FnScope N__law_near ["_law_hand_here", "_law_offsets"] (defScope s__law_near) := ⟨rfl, rfl, rfl, by decide +kernel, rfl, by decide +kernel, by decide +kernel⟩
theorem k__law_near (T : Txt K mg C) (K__law_shape : Fk P w K mg base C "_law_shape" 1 3 m__law_shape) (K__law_take : Fk P w K mg base C "_law_take" 2 2 m__law_take) (K__law_sevens : Fk P w K mg base C "_law_sevens" 2 4 m__law_sevens) (K__law_even : Fk P w K mg base C "_law_even" 1 1 m__law_even) (K__law_saw : Fk P w K mg base C "_law_saw" 2 2 m__law_saw) : Fk P w K mg base C "_law_near" 2 5 m__law_near := fk_of T.d__law_near sc__law_near [0] (by decide) fun f cdv A outer s H E ad hr =>
  dss_cons (ds_set (i := 2) sc__law_near.nd (de_call (K__law_shape.callee (hr.mono (by decide))) (takes_of rfl rfl rfl rfl) (dag_val (de_var 1) (dag_nil)) (many_val (many_nil))))
  (dss_cons (ds_set (i := 3) sc__law_near.nd (de_call (K__law_take.callee (hr.mono (by decide))) (takes_of rfl rfl rfl rfl) (dag_io 0 (dag_val (de_int) (dag_nil))) (many_io (many_val (many_nil)))))
  (dss_cons (ds_set (i := 4) sc__law_near.nd (de_sub (de_call (K__law_take.callee (hr.mono (by decide))) (takes_of rfl rfl rfl rfl) (dag_io 0 (dag_val (de_int) (dag_nil))) (many_io (many_val (many_nil)))) (de_int)))
  (dss_cons (ds_if (dt_c .eq (hu65 hr) (de_var 3) (de_int)) (dss_one (ds_ret (de_call (K__law_even.callee (hr.mono (by decide))) (takes_of rfl rfl rfl rfl) (dag_val (de_ix (de_var 1) (de_call (K__law_take.callee (hr.mono (by decide))) (takes_of rfl rfl rfl rfl) (dag_io 0 (dag_val (de_int) (dag_nil))) (many_io (many_val (many_nil))))) (dag_nil)) (many_val (many_nil))))) (dss_nil))
  (dss_cons (ds_if (dt_c .eq (hu65 hr) (de_var 3) (de_int)) (dss_one (ds_ret (de_if (dt_c .eq (hu65 hr) (de_ix (de_var 2) (de_int)) (de_str)) (de_call (K__law_even.callee (hr.mono (by decide))) (takes_of rfl rfl rfl rfl) (dag_val (de_add (de_ix (de_var 2) (de_int)) (de_var 4)) (dag_nil)) (many_val (many_nil))) (de_call (K__law_saw.callee (hr.mono (by decide))) (takes_of rfl rfl rfl rfl) (dag_val (de_ix (de_var 2) (de_int)) (dag_val (de_add (de_ix (de_var 2) (de_int)) (de_var 4)) (dag_nil))) (many_val (many_val (many_nil))))))) (dss_nil))
  (dss_cons (ds_if (dt_c .eq (hu65 hr) (de_var 3) (de_int)) (dss_one (ds_ret (de_call (K__law_saw.callee (hr.mono (by decide))) (takes_of rfl rfl rfl rfl) (dag_val (de_call (K__law_take.callee (hr.mono (by decide))) (takes_of rfl rfl rfl rfl) (dag_io 0 (dag_val (de_int) (dag_nil))) (many_io (many_val (many_nil)))) (dag_val (de_add (de_ix (de_var 1) (de_int)) (de_var 4)) (dag_nil))) (many_val (many_val (many_nil)))))) (dss_nil))
  (dss_cons (ds_if (dt_c .eq (hu65 hr) (de_var 3) (de_int)) (dss_one (ds_ret (de_T call_tuple_of vb_tuple rfl T.b_tuple (by decide +kernel) (da_cons (de_of (df_lc (own := [("_law_offset", 5)]) (sl := [5]) rfl sc__law_near.nd (di_seq (de_var 1)) (blkOk_by (N := N__law_near) (sc := defScope s__law_near) (by decide +kernel)) (by decide) (fun _ _ _ _ _ => dg_name (i := 5) sc__law_near.nd rfl (by first | exact Or.inl rfl | exact Or.inr rfl) rfl) (fun _ _ _ _ _ => dts_nil) (fun _ _ _ _ _ => de_add (de_var 5) (de_var 4)))) (da_nil))))) (dss_nil))
  (dss_one (ds_ret (de_call (K__law_sevens.callee (hr.mono (by decide))) (takes_of rfl rfl rfl rfl) (dag_io 0 (dag_val (de_int) (dag_nil))) (many_io (many_val (many_nil))))))))))))
abbrev s_days_ahead : Stmt := top 8
def N_days_ahead : List Str := ["w", "day"]
theorem sc_days_ahead : FnScope N_days_ahead ["w", "day"] (defScope s_days_ahead) := ⟨rfl, rfl, rfl, by decide +kernel, rfl, by decide +kernel, by decide +kernel⟩
theorem k_days_ahead (T : Txt K mg C) : Fk P w K mg base C "days_ahead" 2 1 m_days_ahead := fk_of T.d_days_ahead sc_days_ahead [] (by decide) fun f cdv A outer s H E ad hr =>
  dss_one (ds_ret (de_add (de_mod (de_sub (de_sub (de_var 0) (de_var 1)) (de_int)) (de_int)) (de_int)))
abbrev s_saw_sevens : Stmt := top 7
def N_saw_sevens : List Str := ["w", "m", "rest"]
theorem sc_saw_sevens : FnScope N_saw_sevens ["w", "m"] (defScope s_saw_sevens) := ⟨rfl, rfl, rfl, by decide +kernel, rfl, by decide +kernel, by decide +kernel⟩
theorem k_saw_sevens (T : Txt K mg C) (K_days_ahead : Fk P w K mg base C "days_ahead" 2 1 m_days_ahead) : Fk P w K mg base C "saw_sevens" 2 2 m_saw_sevens := fk_of T.d_saw_sevens sc_saw_sevens [] (by decide) fun f cdv A outer s H E ad hr =>
  dss_one (ds_ret (de_T call_tuple_of vb_tuple rfl T.b_tuple (by decide +kernel) (da_cons (de_of (df_lc (own := [("rest", 2)]) (sl := [2]) rfl sc_saw_sevens.nd (di_rng1 rfl T.b_range (de_int)) (blkOk_by (N := N_saw_sevens) (sc := defScope s_saw_sevens) (by decide +kernel)) (by decide) (fun _ _ _ _ _ => dg_name (i := 2) sc_saw_sevens.nd rfl (by first | exact Or.inl rfl | exact Or.inr rfl) rfl) (fun _ _ _ _ _ => dts_nil) (fun _ _ _ _ _ => de_add (de_var 1) (de_call (K_days_ahead.callee (hr.mono (by decide))) takes0 (dag_val (de_var 0) (dag_val (de_add (de_var 2) (de_var 1)) (dag_nil))) (many_val (many_val (many_nil))))))) (da_nil))))
abbrev s_is_whole : Stmt := top 4
def N_is_whole : List Str := ["thing"]
theorem sc_is_whole : FnScope N_is_whole ["thing"] (defScope s_is_whole) := ⟨rfl, rfl, rfl, by decide +kernel, rfl, by decide +kernel, by decide +kernel⟩
theorem k_is_whole (T : Txt K mg C) : Fk P w K mg base C "is_whole" 1 1 m_is_whole := fk_of T.d_is_whole sc_is_whole [] (by decide) fun f cdv A outer s H E ad hr =>
  dss_one (ds_ret (de_and (de_isT (T := "int") rfl T.b_isinstance (by decide +kernel) rfl T.b_int (by decide +kernel) (de_var 0)) (de_one (de_not (de_isT (T := "bool") rfl T.b_isinstance (by decide +kernel) rfl T.b_bool (by decide +kernel) (de_var 0))))))
abbrev s_shape_of_sevens : Stmt := top 9
def N_shape_of_sevens : List Str := ["sevens", "least", "weekday", "offset"]
theorem sc_shape_of_sevens : FnScope N_shape_of_sevens ["sevens"] (defScope s_shape_of_sevens) := ⟨rfl, rfl, rfl, by decide +kernel, rfl, by decide +kernel, by decide +kernel⟩
theorem k_shape_of_sevens (T : Txt K mg C) (K_saw_sevens : Fk P w K mg base C "saw_sevens" 2 2 m_saw_sevens) (K_is_whole : Fk P w K mg base C "is_whole" 1 1 m_is_whole) : Fk P w K mg base C "shape_of_sevens" 1 3 m_shape_of_sevens := fk_of T.d_shape_of_sevens sc_shape_of_sevens [] (by decide) fun f cdv A outer s H E ad hr =>
  dss_cons (ds_if (dt_w (dw_or (dt_not (dt_tru (de_isT (T := "tuple") rfl T.b_isinstance (by decide +kernel) rfl T.b_tuple (by decide +kernel) (de_var 0)))) (dw_or1 (dt_c .ne (hu65 hr) (de_B cr_lenS vb_len rfl T.b_len (by decide +kernel) (da_cons (de_var 0) (da_nil))) (de_int))))) (dss_one (ds_raise0 (c := 1) rfl (takes_of rfl rfl rfl rfl) (T.x_BadSevens.pmk rfl))) (dss_nil))
  (dss_cons (ds_if (dt_not (dt_tru (de_B (cr_all rfl) vb_all rfl T.b_all (by decide +kernel) (da_cons (de_of (df_lc (own := [("offset", 3)]) (sl := [3]) rfl sc_shape_of_sevens.nd (di_seq (de_var 0)) (blkOk_by (N := N_shape_of_sevens) (sc := defScope s_shape_of_sevens) (by decide +kernel)) (by decide) (fun _ _ _ _ _ => dg_name (i := 3) sc_shape_of_sevens.nd rfl (by first | exact Or.inl rfl | exact Or.inr rfl) rfl) (fun _ _ _ _ _ => dts_nil) (fun _ _ _ _ _ => de_call (K_is_whole.callee (hr.mono (by decide))) takes0 (dag_val (de_var 3) (dag_nil)) (many_val (many_nil))))) (da_nil))))) (dss_one (ds_raise0 (c := 1) rfl (takes_of rfl rfl rfl rfl) (T.x_BadSevens.pmk rfl))) (dss_nil))
  (dss_cons (ds_set (i := 1) sc_shape_of_sevens.nd (de_B (cr_minS rfl (hu65 hr)) vb_min rfl T.b_min (by decide +kernel) (da_cons (de_var 0) (da_nil))))
  (dss_cons (ds_if (dt_c .eq (hu65 hr) (de_var 1) (de_B (cr_maxS rfl (hu65 hr)) vb_max rfl T.b_max (by decide +kernel) (da_cons (de_var 0) (da_nil)))) (dss_one (ds_ret (de_tuple (da_cons (de_str) (da_cons (de_var 1) (da_nil)))))) (dss_nil))
  (dss_cons (ds_set (i := 2) sc_shape_of_sevens.nd (de_mod (de_ix (de_var 0) (de_int)) (de_int)))
  (dss_cons (ds_if (dt_c .ne (hu65 hr) (de_call (K_saw_sevens.callee (hr.mono (by decide))) (takes_of rfl rfl rfl rfl) (dag_val (de_var 2) (dag_val (de_sub (de_var 1) (de_int)) (dag_nil))) (many_val (many_val (many_nil)))) (de_var 0)) (dss_one (ds_raise0 (c := 1) rfl (takes_of rfl rfl rfl rfl) (T.x_BadSevens.pmk rfl))) (dss_nil))
  (dss_one (ds_ret (de_tuple (da_cons (de_str) (da_cons (de_var 2) (da_cons (de_sub (de_var 1) (de_int)) (da_nil))))))))))))
abbrev s_rests_alike : Stmt := top 10
def N_rests_alike : List Str := ["one", "other", "rest"]
theorem sc_rests_alike : FnScope N_rests_alike ["one", "other"] (defScope s_rests_alike) := ⟨rfl, rfl, rfl, by decide +kernel, rfl, by decide +kernel, by decide +kernel⟩
theorem k_rests_alike (T : Txt K mg C) (K_shape_of_sevens : Fk P w K mg base C "shape_of_sevens" 1 3 m_shape_of_sevens) : Fk P w K mg base C "rests_alike" 2 4 m_rests_alike := fk_of T.d_rests_alike sc_rests_alike [] (by decide) fun f cdv A outer s H E ad hr =>
  dss_cons (ds_expr (de_call (K_shape_of_sevens.callee (hr.mono (by decide))) (takes_of rfl rfl rfl rfl) (dag_val (de_var 0) (dag_nil)) (many_val (many_nil))))
  (dss_cons (ds_expr (de_call (K_shape_of_sevens.callee (hr.mono (by decide))) (takes_of rfl rfl rfl rfl) (dag_val (de_var 1) (dag_nil)) (many_val (many_nil))))
  (dss_one (ds_ret (de_T call_tuple_of vb_tuple rfl T.b_tuple (by decide +kernel) (da_cons (de_of (df_lc (own := [("rest", 2)]) (sl := [2]) rfl sc_rests_alike.nd (di_rng1 rfl T.b_range (de_int)) (blkOk_by (N := N_rests_alike) (sc := defScope s_rests_alike) (by decide +kernel)) (by decide) (fun _ _ _ _ _ => dg_name (i := 2) sc_rests_alike.nd rfl (by first | exact Or.inl rfl | exact Or.inr rfl) rfl) (fun _ _ _ _ _ => dts_one (dt_c .eq (hu65 hr) (de_ix (de_var 0) (de_var 2)) (de_ix (de_var 1) (de_var 2)))) (fun _ _ _ _ _ => de_var 2))) (da_nil))))))
abbrev s__law_step : Stmt := top 17
def N__law_step : List Str := ["_law_hand_here"]
theorem sc__law_step : FnScope N__law_step ["_law_hand_here"] (defScope s__law_step) := ⟨rfl, rfl, rfl, by decide +kernel, rfl, by decide +kernel, by decide +kernel⟩
theorem k__law_step (T : Txt K mg C) (K__law_take : Fk P w K mg base C "_law_take" 2 2 m__law_take) : Fk P w K mg base C "_law_step" 1 3 m__law_step := fk_of T.d__law_step sc__law_step [0] (by decide) fun f cdv A outer s H E ad hr =>
  dss_one (ds_ret (de_if (dt_c .eq (hu65 hr) (de_call (K__law_take.callee (hr.mono (by decide))) (takes_of rfl rfl rfl rfl) (dag_io 0 (dag_val (de_int) (dag_nil))) (many_io (many_val (many_nil)))) (de_int)) (de_sub (de_call (K__law_take.callee (hr.mono (by decide))) (takes_of rfl rfl rfl rfl) (dag_io 0 (dag_val (de_int) (dag_nil))) (many_io (many_val (many_nil)))) (de_int)) (de_sub (de_call (K__law_take.callee (hr.mono (by decide))) (takes_of rfl rfl rfl rfl) (dag_io 0 (dag_val (de_int) (dag_nil))) (many_io (many_val (many_nil)))) (de_int))))
abbrev s__law_hop : Stmt := top 26
def N__law_hop : List Str := ["_law_hand_here", "_law_way"]
theorem sc__law_hop : FnScope N__law_hop ["_law_hand_here"] (defScope s__law_hop) := ⟨rfl, rfl, rfl, by decide +kernel, rfl, by decide +kernel, by decide +kernel⟩
theorem k__law_hop (T : Txt K mg C) (K__law_take : Fk P w K mg base C "_law_take" 2 2 m__law_take) (K__law_step : Fk P w K mg base C "_law_step" 1 3 m__law_step) : Fk P w K mg base C "_law_hop" 1 4 m__law_hop := fk_of T.d__law_hop sc__law_hop [0] (by decide) fun f cdv A outer s H E ad hr =>
  dss_cons (ds_set (i := 1) sc__law_hop.nd (de_call (K__law_take.callee (hr.mono (by decide))) (takes_of rfl rfl rfl rfl) (dag_io 0 (dag_val (de_int) (dag_nil))) (many_io (many_val (many_nil)))))
  (dss_cons (ds_if (dt_c .lt (hu65 hr) (de_var 1) (de_int)) (dss_one (ds_ret (de_tuple (da_cons (de_str) (da_cons (de_call (K__law_step.callee (hr.mono (by decide))) (takes_of rfl rfl rfl rfl) (dag_io 0 (dag_nil)) (many_io (many_nil))) (da_nil)))))) (dss_nil))
  (dss_one (ds_ret (de_tuple (da_cons (de_ix (de_list (da_cons (de_str) (da_cons (de_str) (da_nil)))) (de_sub (de_var 1) (de_int))) (da_cons (de_call (K__law_take.callee (hr.mono (by decide))) (takes_of rfl rfl rfl rfl) (dag_io 0 (dag_val (de_int) (dag_nil))) (many_io (many_val (many_nil)))) (da_nil)))))))
abbrev s__law_last : Stmt := top 19
def N__law_last : List Str := ["_law_day", "_law_weekday", "_law_turn"]
theorem sc__law_last : FnScope N__law_last ["_law_day", "_law_weekday"] (defScope s__law_last) := ⟨rfl, rfl, rfl, by decide +kernel, rfl, by decide +kernel, by decide +kernel⟩
theorem k__law_last (T : Txt K mg C) : Fk P w K mg base C "_law_last" 2 1 m__law_last := fk_of T.d__law_last sc__law_last [] (by decide) fun f cdv A outer s H E ad hr =>
  dss_cons (ds_for (passes_of rfl) rfl (di_rng1 rfl T.b_range (de_int)) (dg_name (i := 2) sc__law_last.nd rfl (by first | exact Or.inl rfl | exact Or.inr rfl) rfl) (dss_cons (ds_set (i := 0) sc__law_last.nd (de_sub (de_var 0) (de_int)))
  (dss_one (ds_if (dt_c .eq (hu65 hr) (de_mod (de_T call_int1 vb_int rfl T.b_int (by decide +kernel) (da_cons (de_var 0) (da_nil))) (de_int)) (de_var 1)) (dss_one (ds_ret (de_var 0))) (dss_nil)))))
  (dss_one (ds_ret (de_var 0)))
abbrev s__law_counted : Stmt := top 20
def N__law_counted : List Str := ["_law_day", "_law_word"]
theorem sc__law_counted : FnScope N__law_counted ["_law_day", "_law_word"] (defScope s__law_counted) := ⟨rfl, rfl, rfl, by decide +kernel, rfl, by decide +kernel, by decide +kernel⟩
theorem k__law_counted (T : Txt K mg C) (K__law_coming : Fk P w K mg base C "_law_coming" 2 1 m__law_coming) (K__law_last : Fk P w K mg base C "_law_last" 2 1 m__law_last) : Fk P w K mg base C "_law_counted" 2 2 m__law_counted := fk_of T.d__law_counted sc__law_counted [] (by decide) fun f cdv A outer s H E ad hr =>
  dss_cons (ds_if (dt_w (dw_or (dt_c .eq (hu65 hr) (de_ix (de_var 1) (de_int)) (de_str)) (dw_or1 (dt_c .eq (hu65 hr) (de_ix (de_var 1) (de_int)) (de_str))))) (dss_one (ds_ret (de_call (K__law_coming.callee (hr.mono (by decide))) (takes_of rfl rfl rfl rfl) (dag_val (de_var 0) (dag_val (de_ix (de_var 1) (de_int)) (dag_nil))) (many_val (many_val (many_nil)))))) (dss_nil))
  (dss_cons (ds_if (dt_w (dw_or (dt_c .eq (hu65 hr) (de_ix (de_var 1) (de_int)) (de_str)) (dw_or1 (dt_c .eq (hu65 hr) (de_ix (de_var 1) (de_int)) (de_str))))) (dss_one (ds_ret (de_call (K__law_last.callee (hr.mono (by decide))) (takes_of rfl rfl rfl rfl) (dag_val (de_var 0) (dag_val (de_ix (de_var 1) (de_int)) (dag_nil))) (many_val (many_val (many_nil)))))) (dss_nil))
  (dss_one (ds_ret (de_if (dt_c .eq (hu65 hr) (de_ix (de_var 1) (de_int)) (de_str)) (de_ix (de_var 1) (de_int)) (de_add (de_var 0) (de_ix (de_var 1) (de_int)))))))
abbrev s__law_hopped : Stmt := top 27
def N__law_hopped : List Str := ["_law_offsets", "_law_hop_here", "_law_word", "_law_rest"]
theorem sc__law_hopped : FnScope N__law_hopped ["_law_offsets", "_law_hop_here"] (defScope s__law_hopped) := ⟨rfl, rfl, rfl, by decide +kernel, rfl, by decide +kernel, by decide +kernel⟩
theorem k__law_hopped (T : Txt K mg C) (K__law_counted : Fk P w K mg base C "_law_counted" 2 2 m__law_counted) : Fk P w K mg base C "_law_hopped" 2 3 m__law_hopped := fk_of T.d__law_hopped sc__law_hopped [] (by decide) fun f cdv A outer s H E ad hr =>
  dss_cons (ds_set (i := 2) sc__law_hopped.nd (de_if (dt_c .eq (hu65 hr) (de_ix (de_var 1) (de_int)) (de_str)) (de_tuple (da_cons (de_str) (da_cons (de_ix (de_var 1) (de_int)) (da_nil)))) (de_var 1)))
  (dss_one (ds_ret (de_T call_tuple_of vb_tuple rfl T.b_tuple (by decide +kernel) (da_cons (de_of (df_lc (own := [("_law_rest", 3)]) (sl := [3]) rfl sc__law_hopped.nd (di_rng1 rfl T.b_range (de_int)) (blkOk_by (N := N__law_hopped) (sc := defScope s__law_hopped) (by decide +kernel)) (by decide) (fun _ _ _ _ _ => dg_name (i := 3) sc__law_hopped.nd rfl (by first | exact Or.inl rfl | exact Or.inr rfl) rfl) (fun _ _ _ _ _ => dts_nil) (fun _ _ _ _ _ => de_sub (de_call (K__law_counted.callee (hr.mono (by decide))) takes0 (dag_val (de_add (de_var 3) (de_ix (de_var 0) (de_var 3))) (dag_val (de_var 2) (dag_nil))) (many_val (many_val (many_nil)))) (de_var 3)))) (da_nil)))))
abbrev s__law_pick : Stmt := top 22
def N__law_pick : List Str := ["_law_hand_here", "_law_things"]
theorem sc__law_pick : FnScope N__law_pick ["_law_hand_here", "_law_things"] (defScope s__law_pick) := ⟨rfl, rfl, rfl, by decide +kernel, rfl, by decide +kernel, by decide +kernel⟩
theorem k__law_pick (T : Txt K mg C) (K__law_take : Fk P w K mg base C "_law_take" 2 2 m__law_take) : Fk P w K mg base C "_law_pick" 2 3 m__law_pick := fk_of T.d__law_pick sc__law_pick [0] (by decide) fun f cdv A outer s H E ad hr =>
  dss_one (ds_ret (de_ix (de_var 1) (de_call (K__law_take.callee (hr.mono (by decide))) (takes_of rfl rfl rfl rfl) (dag_io 0 (dag_val (de_B cr_lenS vb_len rfl T.b_len (by decide +kernel) (da_cons (de_var 1) (da_nil))) (dag_nil))) (many_io (many_val (many_nil))))))
abbrev s__law_most : Stmt := top 31
def N__law_most : List Str := ["_law_one", "_law_other", "_law_first", "_law_second", "_law_even_here", "_law_saw_here"]
theorem sc__law_most : FnScope N__law_most ["_law_one", "_law_other"] (defScope s__law_most) := ⟨rfl, rfl, rfl, by decide +kernel, rfl, by decide +kernel, by decide +kernel⟩
theorem k__law_most (T : Txt K mg C) (K__law_shape : Fk P w K mg base C "_law_shape" 1 3 m__law_shape) : Fk P w K mg base C "_law_most" 2 4 m__law_most := fk_of T.d__law_most sc__law_most [] (by decide) fun f cdv A outer s H E ad hr =>
  dss_cons (ds_if (dt_c .eq (hu65 hr) (de_var 0) (de_var 1)) (dss_one (ds_ret (de_int))) (dss_nil))
  (dss_cons (ds_par (i := 2) (j := 3) rfl sc__law_most.nd (de_call (K__law_shape.callee (hr.mono (by decide))) (takes_of rfl rfl rfl rfl) (dag_val (de_var 0) (dag_nil)) (many_val (many_nil))) (de_call (K__law_shape.callee (hr.mono (by decide))) (takes_of rfl rfl rfl rfl) (dag_val (de_var 1) (dag_nil)) (many_val (many_nil))))
  (dss_cons (ds_if (dt_w (dw_and (dt_c .eq (hu65 hr) (de_ix (de_var 2) (de_int)) (de_str)) (dw_and1 (dt_c .eq (hu65 hr) (de_ix (de_var 3) (de_int)) (de_str))))) (dss_one (ds_ret (de_if (dt_c .eq (hu65 hr) (de_ix (de_var 2) (de_int)) (de_ix (de_var 3) (de_int))) (de_B (cr_maxS rfl (hu65 hr)) vb_max rfl T.b_max (by decide +kernel) (da_cons (de_int) (da_cons (de_sub (de_int) (de_B call_abs vb_abs rfl T.b_abs (by decide +kernel) (da_cons (de_sub (de_ix (de_var 2) (de_int)) (de_ix (de_var 3) (de_int))) (da_nil)))) (da_nil)))) (de_int)))) (dss_nil))
  (dss_cons (ds_if (dt_c .eq (hu65 hr) (de_ix (de_var 2) (de_int)) (de_ix (de_var 3) (de_int))) (dss_one (ds_ret (de_int))) (dss_nil))
  (dss_cons (ds_asg (de_if (dt_c .eq (hu65 hr) (de_ix (de_var 2) (de_int)) (de_str)) (de_tuple (da_cons (de_var 2) (da_cons (de_var 3) (da_nil)))) (de_tuple (da_cons (de_var 3) (da_cons (de_var 2) (da_nil))))) (dg_seq rfl (dgs_cons (dg_name (i := 4) sc__law_most.nd rfl (by first | exact Or.inl rfl | exact Or.inr rfl) rfl) (dgs_cons (dg_name (i := 5) sc__law_most.nd rfl (by first | exact Or.inl rfl | exact Or.inr rfl) rfl) (dgs_nil)))))
  (dss_one (ds_ret (de_T call_int1 vb_int rfl T.b_int (by decide +kernel) (da_cons (de_chain .lt .le (hu65 hr) (de_ix (de_var 5) (de_int)) (de_ix (de_var 4) (de_int)) (de_add (de_ix (de_var 5) (de_int)) (de_int))) (da_nil)))))))))
abbrev s_pluses_to : Stmt := top 11
def N_pluses_to : List Str := ["k", "hops", "left", "size"]
theorem sc_pluses_to : FnScope N_pluses_to ["k"] (defScope s_pluses_to) := ⟨rfl, rfl, rfl, by decide +kernel, rfl, by decide +kernel, by decide +kernel⟩
theorem k_pluses_to (T : Txt K mg C) : Fk P w K mg base C "pluses_to" 1 1 m_pluses_to := fk_of T.d_pluses_to sc_pluses_to [] (by decide) fun f cdv A outer s H E ad hr =>
  dss_cons (ds_own (i := 1) sc_pluses_to.nd (df_list (da_nil)))
  (dss_cons (ds_set (i := 2) sc_pluses_to.nd (de_var 0))
  (dss_cons (ds_while (fun _ => FUEL) (passes_of rfl) (dt_c .ne (hu65 hr) (de_var 2) (de_int)) (dss_cons (ds_set (i := 3) sc_pluses_to.nd (de_B (cr_maxS rfl (hu65 hr)) vb_max rfl T.b_max (by decide +kernel) (da_cons (de_neg (de_glob T.g_MOST_PLUS)) (da_cons (de_B (cr_minS rfl (hu65 hr)) vb_min rfl T.b_min (by decide +kernel) (da_cons (de_glob T.g_MOST_PLUS) (da_cons (de_var 2) (da_nil)))) (da_nil)))))
  (dss_cons (ds_app 1 (de_tuple (da_cons (de_str) (da_cons (de_var 3) (da_nil)))))
  (dss_one (ds_aug ip_sub (i := 2) sc_pluses_to.nd (de_var 3))))))
  (dss_one (ds_ret (de_T call_tuple_of vb_tuple rfl T.b_tuple (by decide +kernel) (da_cons (de_var 1) (da_nil)))))))
abbrev s_least_hops : Stmt := top 12
def N_least_hops : List Str := ["sevens", "shape", "ahead", "back"]
theorem sc_least_hops : FnScope N_least_hops ["sevens"] (defScope s_least_hops) := ⟨rfl, rfl, rfl, by decide +kernel, rfl, by decide +kernel, by decide +kernel⟩
theorem k_least_hops (T : Txt K mg C) (K_shape_of_sevens : Fk P w K mg base C "shape_of_sevens" 1 3 m_shape_of_sevens) (K_pluses_to : Fk P w K mg base C "pluses_to" 1 1 m_pluses_to) : Fk P w K mg base C "least_hops" 1 4 m_least_hops := fk_of T.d_least_hops sc_least_hops [] (by decide) fun f cdv A outer s H E ad hr =>
  dss_cons (ds_set (i := 1) sc_least_hops.nd (de_call (K_shape_of_sevens.callee (hr.mono (by decide))) (takes_of rfl rfl rfl rfl) (dag_val (de_var 0) (dag_nil)) (many_val (many_nil))))
  (dss_cons (ds_if (dt_c .eq (hu65 hr) (de_ix (de_var 1) (de_int)) (de_str)) (dss_one (ds_ret (de_call (K_pluses_to.callee (hr.mono (by decide))) (takes_of rfl rfl rfl rfl) (dag_val (de_ix (de_var 1) (de_int)) (dag_nil)) (many_val (many_nil))))) (dss_nil))
  (dss_cons (ds_set (i := 2) sc_least_hops.nd (de_call (K_pluses_to.callee (hr.mono (by decide))) (takes_of rfl rfl rfl rfl) (dag_val (de_ix (de_var 1) (de_int)) (dag_nil)) (many_val (many_nil))))
  (dss_cons (ds_set (i := 3) sc_least_hops.nd (de_call (K_pluses_to.callee (hr.mono (by decide))) (takes_of rfl rfl rfl rfl) (dag_val (de_add (de_ix (de_var 1) (de_int)) (de_int)) (dag_nil)) (many_val (many_nil))))
  (dss_cons (ds_if (dt_c .le (hu65 hr) (de_B cr_lenS vb_len rfl T.b_len (by decide +kernel) (da_cons (de_var 2) (da_nil))) (de_B cr_lenS vb_len rfl T.b_len (by decide +kernel) (da_cons (de_var 3) (da_nil)))) (dss_one (ds_ret (de_add (de_var 2) (de_tuple (da_cons (de_tuple (da_cons (de_str) (da_cons (de_ix (de_var 1) (de_int)) (da_nil)))) (da_nil)))))) (dss_nil))
  (dss_one (ds_ret (de_add (de_var 3) (de_tuple (da_cons (de_tuple (da_cons (de_str) (da_cons (de_ix (de_var 1) (de_int)) (da_nil)))) (da_nil))))))))))
abbrev s__law_up : Stmt := top 32
def N__law_up : List Str := ["_law_number"]
theorem sc__law_up : FnScope N__law_up ["_law_number"] (defScope s__law_up) := ⟨rfl, rfl, rfl, by decide +kernel, rfl, by decide +kernel, by decide +kernel⟩
theorem k__law_up (T : Txt K mg C) : Fk P w K mg base C "_law_up" 1 1 m__law_up := fk_of T.d__law_up sc__law_up [] (by decide) fun f cdv A outer s H E ad hr =>
  dss_one (ds_ret (de_div (de_T call_int1 vb_int rfl T.b_int (by decide +kernel) (da_cons (de_add (de_B call_abs vb_abs rfl T.b_abs (by decide +kernel) (da_cons (de_var 0) (da_nil))) (de_int)) (da_nil))) (de_int)))
abbrev s__law_fewest : Stmt := top 33
def N__law_fewest : List Str := ["_law_offsets", "_law_shape_here"]
theorem sc__law_fewest : FnScope N__law_fewest ["_law_offsets"] (defScope s__law_fewest) := ⟨rfl, rfl, rfl, by decide +kernel, rfl, by decide +kernel, by decide +kernel⟩
theorem k__law_fewest (T : Txt K mg C) (K__law_shape : Fk P w K mg base C "_law_shape" 1 3 m__law_shape) (K__law_up : Fk P w K mg base C "_law_up" 1 1 m__law_up) : Fk P w K mg base C "_law_fewest" 1 4 m__law_fewest := fk_of T.d__law_fewest sc__law_fewest [] (by decide) fun f cdv A outer s H E ad hr =>
  dss_cons (ds_set (i := 1) sc__law_fewest.nd (de_call (K__law_shape.callee (hr.mono (by decide))) (takes_of rfl rfl rfl rfl) (dag_val (de_var 0) (dag_nil)) (many_val (many_nil))))
  (dss_cons (ds_if (dt_c .eq (hu65 hr) (de_ix (de_var 1) (de_int)) (de_str)) (dss_one (ds_ret (de_call (K__law_up.callee (hr.mono (by decide))) (takes_of rfl rfl rfl rfl) (dag_val (de_ix (de_var 1) (de_int)) (dag_nil)) (many_val (many_nil))))) (dss_nil))
  (dss_one (ds_ret (de_add (de_int) (de_B (cr_minS rfl (hu65 hr)) vb_min rfl T.b_min (by decide +kernel) (da_cons (de_call (K__law_up.callee (hr.mono (by decide))) (takes_of rfl rfl rfl rfl) (dag_val (de_ix (de_var 1) (de_int)) (dag_nil)) (many_val (many_nil))) (da_cons (de_call (K__law_up.callee (hr.mono (by decide))) (takes_of rfl rfl rfl rfl) (dag_val (de_add (de_ix (de_var 1) (de_int)) (de_int)) (dag_nil)) (many_val (many_nil))) (da_nil))))))))
abbrev s__law_is_hop : Stmt := top 34
def N__law_is_hop : List Str := ["_law_hop_here"]
theorem sc__law_is_hop : FnScope N__law_is_hop ["_law_hop_here"] (defScope s__law_is_hop) := ⟨rfl, rfl, rfl, by decide +kernel, rfl, by decide +kernel, by decide +kernel⟩
theorem k__law_is_hop (T : Txt K mg C) (K__law_whole : Fk P w K mg base C "_law_whole" 1 1 m__law_whole) : Fk P w K mg base C "_law_is_hop" 1 2 m__law_is_hop := fk_of T.d__law_is_hop sc__law_is_hop [] (by decide) fun f cdv A outer s H E ad hr =>
  dss_cons (ds_if (dt_w (dw_or (dt_not (dt_tru (de_isT (T := "tuple") rfl T.b_isinstance (by decide +kernel) rfl T.b_tuple (by decide +kernel) (de_var 0)))) (dw_or (dt_c .ne (hu65 hr) (de_B cr_lenS vb_len rfl T.b_len (by decide +kernel) (da_cons (de_var 0) (da_nil))) (de_int)) (dw_or1 (dt_not (dt_tru (de_call (K__law_whole.callee (hr.mono (by decide))) (takes_of rfl rfl rfl rfl) (dag_val (de_ix (de_var 0) (de_int)) (dag_nil)) (many_val (many_nil))))))))) (dss_one (ds_ret (de_bl))) (dss_nil))
  (dss_cons (ds_if (dt_c .eq (hu65 hr) (de_ix (de_var 0) (de_int)) (de_str)) (dss_one (ds_ret (de_chain .le .le (hu65 hr) (de_neg (de_int)) (de_ix (de_var 0) (de_int)) (de_int)))) (dss_nil))
  (dss_one (ds_ret (de_and (de_c .in_ (hu65 hr) (de_ix (de_var 0) (de_int)) (de_list (da_cons (de_str) (da_cons (de_str) (da_nil))))) (de_one (de_chain .le .le (hu65 hr) (de_int) (de_ix (de_var 0) (de_int)) (de_int)))))))
abbrev s__law_good_hops : Stmt := top 35
def N__law_good_hops : List Str := ["_law_offsets", "_law_hops", "_law_now", "_law_hop_here"]
theorem sc__law_good_hops : FnScope N__law_good_hops ["_law_offsets", "_law_hops"] (defScope s__law_good_hops) := ⟨rfl, rfl, rfl, by decide +kernel, rfl, by decide +kernel, by decide +kernel⟩
theorem k__law_good_hops (T : Txt K mg C) (K__law_even : Fk P w K mg base C "_law_even" 1 1 m__law_even) (K__law_hopped : Fk P w K mg base C "_law_hopped" 2 3 m__law_hopped) (K__law_fewest : Fk P w K mg base C "_law_fewest" 1 4 m__law_fewest) (K__law_is_hop : Fk P w K mg base C "_law_is_hop" 1 2 m__law_is_hop) : Fk P w K mg base C "_law_good_hops" 2 5 m__law_good_hops := fk_of T.d__law_good_hops sc__law_good_hops [] (by decide) fun f cdv A outer s H E ad hr =>
  dss_cons (ds_if (dt_w (dw_or (dt_not (dt_tru (de_isT (T := "tuple") rfl T.b_isinstance (by decide +kernel) rfl T.b_tuple (by decide +kernel) (de_var 1)))) (dw_or1 (dt_c .ne (hu65 hr) (de_B cr_lenS vb_len rfl T.b_len (by decide +kernel) (da_cons (de_var 1) (da_nil))) (de_call (K__law_fewest.callee (hr.mono (by decide))) (takes_of rfl rfl rfl rfl) (dag_val (de_var 0) (dag_nil)) (many_val (many_nil))))))) (dss_one (ds_ret (de_bl))) (dss_nil))
  (dss_cons (ds_set (i := 2) sc__law_good_hops.nd (de_call (K__law_even.callee (hr.mono (by decide))) (takes_of rfl rfl rfl rfl) (dag_val (de_int) (dag_nil)) (many_val (many_nil))))
  (dss_cons (ds_for (passes_of rfl) rfl (di_seq (de_var 1)) (dg_name (i := 3) sc__law_good_hops.nd rfl (by first | exact Or.inl rfl | exact Or.inr rfl) rfl) (dss_cons (ds_if (dt_not (dt_tru (de_call (K__law_is_hop.callee (hr.mono (by decide))) (takes_of rfl rfl rfl rfl) (dag_val (de_var 3) (dag_nil)) (many_val (many_nil))))) (dss_one (ds_ret (de_bl))) (dss_nil))
  (dss_one (ds_set (i := 2) sc__law_good_hops.nd (de_call (K__law_hopped.callee (hr.mono (by decide))) (takes_of rfl rfl rfl rfl) (dag_val (de_var 2) (dag_val (de_var 3) (dag_nil))) (many_val (many_val (many_nil))))))))
  (dss_one (ds_ret (de_c .eq (hu65 hr) (de_var 2) (de_var 0))))))
abbrev s__law_refused : Stmt := top 36
def N__law_refused : List Str := ["_law_one", "_law_other"]
theorem sc__law_refused : FnScope N__law_refused ["_law_one", "_law_other"] (defScope s__law_refused) := ⟨rfl, rfl, rfl, by decide +kernel, rfl, by decide +kernel, by decide +kernel⟩
theorem k__law_refused (T : Txt K mg C) (K_rests_alike : Fk P w K mg base C "rests_alike" 2 4 m_rests_alike) : Fk P w K mg base C "_law_refused" 2 5 m__law_refused := fk_of T.d__law_refused sc__law_refused [] (by decide) fun f cdv A outer s H E ad hr =>
  dss_cons (ds_try (c := 1) rfl rfl (T.x_BadSevens.names rfl) (takes_of rfl rfl rfl rfl) T.sb (fun W_ pn_ xe_ tk_ po_ => dss_one (ds_expr (de_call (K_rests_alike.callee (hr.mono (by decide))) tk_ (dag_val (de_var 0) (dag_val (de_var 1) (dag_nil))) (many_val (many_val (many_nil)))))) (fun a_ oe_ pn_ => dss_one (ds_ret (de_bl))))
  (dss_one (ds_ret (de_bl)))
abbrev s_law : Stmt := top 37
def N_law : List Str := ["_law_script", "_law_hand_here", "_law_turn", "_law_one", "_law_other", "_law_due", "_law_told", "_law_near_here", "_law_first", "_law_two", "_law_bad", "_law_rest"]
theorem sc_law : FnScope N_law ["_law_script"] (defScope s_law) := ⟨rfl, rfl, rfl, by decide +kernel, rfl, by decide +kernel, by decide +kernel⟩
theorem k_law (T : Txt K mg C) (K__law_hand : Fk P w K mg base C "_law_hand" 1 1 m__law_hand) (K__law_sevens : Fk P w K mg base C "_law_sevens" 2 4 m__law_sevens) (K__law_near : Fk P w K mg base C "_law_near" 2 5 m__law_near) (K_rests_alike : Fk P w K mg base C "rests_alike" 2 4 m_rests_alike) (K__law_hop : Fk P w K mg base C "_law_hop" 1 4 m__law_hop) (K__law_hopped : Fk P w K mg base C "_law_hopped" 2 3 m__law_hopped) (K__law_pick : Fk P w K mg base C "_law_pick" 2 3 m__law_pick) (K__law_most : Fk P w K mg base C "_law_most" 2 4 m__law_most) (K_least_hops : Fk P w K mg base C "least_hops" 1 4 m_least_hops) (K__law_good_hops : Fk P w K mg base C "_law_good_hops" 2 5 m__law_good_hops) (K__law_even : Fk P w K mg base C "_law_even" 1 1 m__law_even) (K__law_refused : Fk P w K mg base C "_law_refused" 2 5 m__law_refused) (K__law_whole : Fk P w K mg base C "_law_whole" 1 1 m__law_whole) : FnOk P w K mg base (L2.CX P w) 6 T.d_law.f T.d_law.fd ["_law_script"] (spF K C 1 m_law) := fnok_of T.d_law sc_law [] (by decide) fun f cdv A outer s H E ad hr =>
  dss_cons (ds_own (i := 1) sc_law.nd (df_call (K__law_hand.callee (hr.mono (by decide))) (takes_of rfl rfl rfl rfl) (dag_val (de_var 0) (dag_nil)) (many_val (many_nil))))
  (dss_cons (ds_for (passes_of rfl) rfl (di_rng1 rfl T.b_range (de_int)) (dg_name (i := 2) sc_law.nd rfl (by first | exact Or.inl rfl | exact Or.inr rfl) rfl) (dss_cons (ds_set (i := 3) sc_law.nd (de_call (K__law_sevens.callee (hr.mono (by decide))) (takes_of rfl rfl rfl rfl) (dag_io 1 (dag_val (de_if (dt_c .lt (hu65 hr) (de_var 2) (de_int)) (de_int) (de_int)) (dag_nil))) (many_io (many_val (many_nil)))))
  (dss_cons (ds_set (i := 4) sc_law.nd (de_call (K__law_near.callee (hr.mono (by decide))) (takes_of rfl rfl rfl rfl) (dag_io 1 (dag_val (de_var 3) (dag_nil))) (many_io (many_val (many_nil)))))
  (dss_cons (ds_set (i := 5) sc_law.nd (de_T call_tuple_of vb_tuple rfl T.b_tuple (by decide +kernel) (da_cons (de_of (df_lc (own := [("_law_rest", 11)]) (sl := [11]) rfl sc_law.nd (di_rng1 rfl T.b_range (de_int)) (blkOk_by (N := N_law) (sc := defScope s_law) (by decide +kernel)) (by decide) (fun _ _ _ _ _ => dg_name (i := 11) sc_law.nd rfl (by first | exact Or.inl rfl | exact Or.inr rfl) rfl) (fun _ _ _ _ _ => dts_one (dt_c .eq (hu65 hr) (de_ix (de_var 3) (de_var 11)) (de_ix (de_var 4) (de_var 11)))) (fun _ _ _ _ _ => de_var 11))) (da_nil))))
  (dss_cons (ds_set (i := 6) sc_law.nd (de_call (K_rests_alike.callee (hr.mono (by decide))) (takes_of rfl rfl rfl rfl) (dag_val (de_var 3) (dag_val (de_var 4) (dag_nil))) (many_val (many_val (many_nil)))))
  (dss_cons (ds_if (dt_w (dw_or (dt_c .ne (hu65 hr) (de_var 6) (de_var 5)) (dw_or (dt_c .ne (hu65 hr) (de_of (df_lc (own := [("_law_rest", 11)]) (sl := [11]) rfl sc_law.nd (di_seq (de_var 6)) (blkOk_by (N := N_law) (sc := defScope s_law) (by decide +kernel)) (by decide) (fun _ _ _ _ _ => dg_name (i := 11) sc_law.nd rfl (by first | exact Or.inl rfl | exact Or.inr rfl) rfl) (fun _ _ _ _ _ => dts_one (dt_not (dt_tru (de_call (K__law_whole.callee (hr.mono (by decide))) takes0 (dag_val (de_var 11) (dag_nil)) (many_val (many_nil)))))) (fun _ _ _ _ _ => de_var 11))) (de_list (da_nil))) (dw_or1 (dt_c .ne (hu65 hr) (de_call (K_rests_alike.callee (hr.mono (by decide))) (takes_of rfl rfl rfl rfl) (dag_val (de_var 4) (dag_val (de_var 3) (dag_nil))) (many_val (many_val (many_nil)))) (de_var 5)))))) (dss_one (ds_ret (de_bl))) (dss_nil))
  (dss_cons (ds_if (dt_c .ne (hu65 hr) (de_B cr_lenS vb_len rfl T.b_len (by decide +kernel) (da_cons (de_var 6) (da_nil))) (de_call (K__law_most.callee (hr.mono (by decide))) (takes_of rfl rfl rfl rfl) (dag_val (de_var 3) (dag_val (de_var 4) (dag_nil))) (many_val (many_val (many_nil))))) (dss_one (ds_ret (de_bl))) (dss_nil))
  (dss_cons (ds_for (passes_of rfl) rfl (di_seq (de_list (da_cons (de_var 3) (da_cons (de_call (K__law_hopped.callee (hr.mono (by decide))) (takes_of rfl rfl rfl rfl) (dag_val (de_var 3) (dag_val (de_tuple (da_cons (de_str) (da_cons (de_var 2) (da_nil)))) (dag_nil))) (many_val (many_val (many_nil)))) (da_nil))))) (dg_name (i := 7) sc_law.nd rfl (by first | exact Or.inl rfl | exact Or.inr rfl) rfl) (dss_one (ds_if (dt_not (dt_tru (de_call (K__law_good_hops.callee (hr.mono (by decide))) (takes_of rfl rfl rfl rfl) (dag_val (de_var 7) (dag_val (de_call (K_least_hops.callee (hr.mono (by decide))) (takes_of rfl rfl rfl rfl) (dag_val (de_var 7) (dag_nil)) (many_val (many_nil))) (dag_nil))) (many_val (many_val (many_nil)))))) (dss_one (ds_ret (de_bl))) (dss_nil))))
  (dss_cons (ds_set (i := 8) sc_law.nd (de_call (K__law_hop.callee (hr.mono (by decide))) (takes_of rfl rfl rfl rfl) (dag_io 1 (dag_nil)) (many_io (many_nil))))
  (dss_cons (ds_set (i := 9) sc_law.nd (de_call (K__law_hopped.callee (hr.mono (by decide))) (takes_of rfl rfl rfl rfl) (dag_val (de_call (K__law_hopped.callee (hr.mono (by decide))) (takes_of rfl rfl rfl rfl) (dag_val (de_call (K__law_even.callee (hr.mono (by decide))) (takes_of rfl rfl rfl rfl) (dag_val (de_int) (dag_nil)) (many_val (many_nil))) (dag_val (de_var 8) (dag_nil))) (many_val (many_val (many_nil)))) (dag_val (de_call (K__law_hop.callee (hr.mono (by decide))) (takes_of rfl rfl rfl rfl) (dag_io 1 (dag_nil)) (many_io (many_nil))) (dag_nil))) (many_val (many_val (many_nil)))))
  (dss_cons (ds_if (dt_w (dw_or (dt_c .gt (hu65 hr) (de_B cr_lenS vb_len rfl T.b_len (by decide +kernel) (da_cons (de_call (K_least_hops.callee (hr.mono (by decide))) (takes_of rfl rfl rfl rfl) (dag_val (de_var 9) (dag_nil)) (many_val (many_nil))) (da_nil))) (de_int)) (dw_or1 (dt_c .gt (hu65 hr) (de_B cr_lenS vb_len rfl T.b_len (by decide +kernel) (da_cons (de_call (K_least_hops.callee (hr.mono (by decide))) (takes_of rfl rfl rfl rfl) (dag_val (de_call (K__law_hopped.callee (hr.mono (by decide))) (takes_of rfl rfl rfl rfl) (dag_val (de_call (K__law_even.callee (hr.mono (by decide))) (takes_of rfl rfl rfl rfl) (dag_val (de_int) (dag_nil)) (many_val (many_nil))) (dag_val (de_var 8) (dag_nil))) (many_val (many_val (many_nil)))) (dag_nil)) (many_val (many_nil))) (da_nil))) (de_int))))) (dss_one (ds_ret (de_bl))) (dss_nil))
  (dss_cons (ds_set (i := 10) sc_law.nd (de_call (K__law_pick.callee (hr.mono (by decide))) (takes_of rfl rfl rfl rfl) (dag_io 1 (dag_val (de_list (da_cons (de_T call_list_of vb_list rfl T.b_list (by decide +kernel) (da_cons (de_var 3) (da_nil))) (da_cons (de_sl (de_var 3) (do_none) (do_some (de_int))) (da_cons (de_add (de_var 3) (de_tuple (da_cons (de_int) (da_nil)))) (da_cons (de_add (de_sl (de_var 3) (do_none) (do_some (de_int))) (de_tuple (da_cons (de_bl) (da_nil)))) (da_cons (de_non) (da_nil))))))) (dag_nil))) (many_io (many_val (many_nil)))))
  (dss_one (ds_if (dt_w (dw_or (dt_not (dt_tru (de_call (K__law_refused.callee (hr.mono (by decide))) (takes_of rfl rfl rfl rfl) (dag_val (de_var 10) (dag_val (de_var 3) (dag_nil))) (many_val (many_val (many_nil)))))) (dw_or1 (dt_not (dt_tru (de_call (K__law_refused.callee (hr.mono (by decide))) (takes_of rfl rfl rfl rfl) (dag_val (de_var 4) (dag_val (de_var 10) (dag_nil))) (many_val (many_val (many_nil))))))))) (dss_one (ds_ret (de_bl))) (dss_nil)))))))))))))))
  (dss_one (ds_ret (de_and (de_c .eq (hu65 hr) (de_call (K_least_hops.callee (hr.mono (by decide))) (takes_of rfl rfl rfl rfl) (dag_val (de_call (K__law_even.callee (hr.mono (by decide))) (takes_of rfl rfl rfl rfl) (dag_val (de_int) (dag_nil)) (many_val (many_nil))) (dag_nil)) (many_val (many_nil))) (de_tuple (da_nil))) (de_one (de_c .eq (hu65 hr) (de_call (K_rests_alike.callee (hr.mono (by decide))) (takes_of rfl rfl rfl rfl) (dag_val (de_call (K__law_even.callee (hr.mono (by decide))) (takes_of rfl rfl rfl rfl) (dag_val (de_int) (dag_nil)) (many_val (many_nil))) (dag_val (de_call (K__law_even.callee (hr.mono (by decide))) (takes_of rfl rfl rfl rfl) (dag_val (de_int) (dag_nil)) (many_val (many_nil))) (dag_nil))) (many_val (many_val (many_nil)))) (de_tuple (da_cons (de_int) (da_cons (de_int) (da_cons (de_int) (da_cons (de_int) (da_cons (de_int) (da_cons (de_int) (da_cons (de_int) (da_nil)))))))))))))))
theorem k_all (T : Txt K mg C) : FnOk P w K mg base (L2.CX P w) 6 T.d_law.f T.d_law.fd ["_law_script"] (spF K C 1 m_law) := by
  have K__law_hand : Fk P w K mg base C "_law_hand" 1 1 m__law_hand := k__law_hand T
  have K__law_coming : Fk P w K mg base C "_law_coming" 2 1 m__law_coming := k__law_coming T
  have K__law_saw : Fk P w K mg base C "_law_saw" 2 2 m__law_saw := k__law_saw T K__law_coming
  have K__law_mixed : Fk P w K mg base C "_law_mixed" 2 1 m__law_mixed := k__law_mixed T
  have K__law_take : Fk P w K mg base C "_law_take" 2 2 m__law_take := k__law_take T K__law_mixed
  have K__law_even : Fk P w K mg base C "_law_even" 1 1 m__law_even := k__law_even T
  have K__law_far : Fk P w K mg base C "_law_far" 2 3 m__law_far := k__law_far T K__law_take
  have K__law_sevens : Fk P w K mg base C "_law_sevens" 2 4 m__law_sevens := k__law_sevens T K__law_saw K__law_take K__law_even K__law_far
  have K__law_whole : Fk P w K mg base C "_law_whole" 1 1 m__law_whole := k__law_whole T
  have K__law_shape : Fk P w K mg base C "_law_shape" 1 3 m__law_shape := k__law_shape T K__law_even K__law_whole K__law_saw
  have K__law_near : Fk P w K mg base C "_law_near" 2 5 m__law_near := k__law_near T K__law_shape K__law_take K__law_sevens K__law_even K__law_saw
  have K_days_ahead : Fk P w K mg base C "days_ahead" 2 1 m_days_ahead := k_days_ahead T
  have K_saw_sevens : Fk P w K mg base C "saw_sevens" 2 2 m_saw_sevens := k_saw_sevens T K_days_ahead
  have K_is_whole : Fk P w K mg base C "is_whole" 1 1 m_is_whole := k_is_whole T
  have K_shape_of_sevens : Fk P w K mg base C "shape_of_sevens" 1 3 m_shape_of_sevens := k_shape_of_sevens T K_saw_sevens K_is_whole
  have K_rests_alike : Fk P w K mg base C "rests_alike" 2 4 m_rests_alike := k_rests_alike T K_shape_of_sevens
  have K__law_step : Fk P w K mg base C "_law_step" 1 3 m__law_step := k__law_step T K__law_take
  have K__law_hop : Fk P w K mg base C "_law_hop" 1 4 m__law_hop := k__law_hop T K__law_take K__law_step
  have K__law_last : Fk P w K mg base C "_law_last" 2 1 m__law_last := k__law_last T
  have K__law_counted : Fk P w K mg base C "_law_counted" 2 2 m__law_counted := k__law_counted T K__law_coming K__law_last
  have K__law_hopped : Fk P w K mg base C "_law_hopped" 2 3 m__law_hopped := k__law_hopped T K__law_counted
  have K__law_pick : Fk P w K mg base C "_law_pick" 2 3 m__law_pick := k__law_pick T K__law_take
  have K__law_most : Fk P w K mg base C "_law_most" 2 4 m__law_most := k__law_most T K__law_shape
  have K_pluses_to : Fk P w K mg base C "pluses_to" 1 1 m_pluses_to := k_pluses_to T
  have K_least_hops : Fk P w K mg base C "least_hops" 1 4 m_least_hops := k_least_hops T K_shape_of_sevens K_pluses_to
  have K__law_up : Fk P w K mg base C "_law_up" 1 1 m__law_up := k__law_up T
  have K__law_fewest : Fk P w K mg base C "_law_fewest" 1 4 m__law_fewest := k__law_fewest T K__law_shape K__law_up
  have K__law_is_hop : Fk P w K mg base C "_law_is_hop" 1 2 m__law_is_hop := k__law_is_hop T K__law_whole
  have K__law_good_hops : Fk P w K mg base C "_law_good_hops" 2 5 m__law_good_hops := k__law_good_hops T K__law_even K__law_hopped K__law_fewest K__law_is_hop
  have K__law_refused : Fk P w K mg base C "_law_refused" 2 5 m__law_refused := k__law_refused T K_rests_alike
  exact k_law T K__law_hand K__law_sevens K__law_near K_rests_alike K__law_hop K__law_hopped K__law_pick K__law_most K_least_hops K__law_good_hops K__law_even K__law_refused K__law_whole
end
end L21
set_option Elab.async false
set_option linter.all false
set_option maxRecDepth 100000
namespace L21
open PySem PySem.Spec L2 Rf
theorem txt_mk {K : PySem.W.Frag} {h : Heap} {mg : Str → Option Value} (X : K.In h) (G : h.Ns mainGlobals mg) {C1 : Addr} {t_MOST_PLUS : Tok}
    {f14 : Addr} {od14 an14 : Option Addr} {sl14 : Array (Option Value)} {oc14 kV14 dc14 pm14 cd14 ct14 : Value}
    {f18 : Addr} {od18 an18 : Option Addr} {sl18 : Array (Option Value)} {oc18 kV18 dc18 pm18 cd18 ct18 : Value}
    {f24 : Addr} {od24 an24 : Option Addr} {sl24 : Array (Option Value)} {oc24 kV24 dc24 pm24 cd24 ct24 : Value}
    {f15 : Addr} {od15 an15 : Option Addr} {sl15 : Array (Option Value)} {oc15 kV15 dc15 pm15 cd15 ct15 : Value}
    {f16 : Addr} {od16 an16 : Option Addr} {sl16 : Array (Option Value)} {oc16 kV16 dc16 pm16 cd16 ct16 : Value}
    {f23 : Addr} {od23 an23 : Option Addr} {sl23 : Array (Option Value)} {oc23 kV23 dc23 pm23 cd23 ct23 : Value}
    {f28 : Addr} {od28 an28 : Option Addr} {sl28 : Array (Option Value)} {oc28 kV28 dc28 pm28 cd28 ct28 : Value}
    {f29 : Addr} {od29 an29 : Option Addr} {sl29 : Array (Option Value)} {oc29 kV29 dc29 pm29 cd29 ct29 : Value}
    {f21 : Addr} {od21 an21 : Option Addr} {sl21 : Array (Option Value)} {oc21 kV21 dc21 pm21 cd21 ct21 : Value}
    {f25 : Addr} {od25 an25 : Option Addr} {sl25 : Array (Option Value)} {oc25 kV25 dc25 pm25 cd25 ct25 : Value}
    {f30 : Addr} {od30 an30 : Option Addr} {sl30 : Array (Option Value)} {oc30 kV30 dc30 pm30 cd30 ct30 : Value}
    {f8 : Addr} {od8 an8 : Option Addr} {sl8 : Array (Option Value)} {oc8 kV8 dc8 pm8 cd8 ct8 : Value}
    {f7 : Addr} {od7 an7 : Option Addr} {sl7 : Array (Option Value)} {oc7 kV7 dc7 pm7 cd7 ct7 : Value}
    {f4 : Addr} {od4 an4 : Option Addr} {sl4 : Array (Option Value)} {oc4 kV4 dc4 pm4 cd4 ct4 : Value}
    {f9 : Addr} {od9 an9 : Option Addr} {sl9 : Array (Option Value)} {oc9 kV9 dc9 pm9 cd9 ct9 : Value}
    {f10 : Addr} {od10 an10 : Option Addr} {sl10 : Array (Option Value)} {oc10 kV10 dc10 pm10 cd10 ct10 : Value}
    {f17 : Addr} {od17 an17 : Option Addr} {sl17 : Array (Option Value)} {oc17 kV17 dc17 pm17 cd17 ct17 : Value}
    {f26 : Addr} {od26 an26 : Option Addr} {sl26 : Array (Option Value)} {oc26 kV26 dc26 pm26 cd26 ct26 : Value}
    {f19 : Addr} {od19 an19 : Option Addr} {sl19 : Array (Option Value)} {oc19 kV19 dc19 pm19 cd19 ct19 : Value}
    {f20 : Addr} {od20 an20 : Option Addr} {sl20 : Array (Option Value)} {oc20 kV20 dc20 pm20 cd20 ct20 : Value}
    {f27 : Addr} {od27 an27 : Option Addr} {sl27 : Array (Option Value)} {oc27 kV27 dc27 pm27 cd27 ct27 : Value}
    {f22 : Addr} {od22 an22 : Option Addr} {sl22 : Array (Option Value)} {oc22 kV22 dc22 pm22 cd22 ct22 : Value}
    {f31 : Addr} {od31 an31 : Option Addr} {sl31 : Array (Option Value)} {oc31 kV31 dc31 pm31 cd31 ct31 : Value}
    {f11 : Addr} {od11 an11 : Option Addr} {sl11 : Array (Option Value)} {oc11 kV11 dc11 pm11 cd11 ct11 : Value}
    {f12 : Addr} {od12 an12 : Option Addr} {sl12 : Array (Option Value)} {oc12 kV12 dc12 pm12 cd12 ct12 : Value}
    {f32 : Addr} {od32 an32 : Option Addr} {sl32 : Array (Option Value)} {oc32 kV32 dc32 pm32 cd32 ct32 : Value}
    {f33 : Addr} {od33 an33 : Option Addr} {sl33 : Array (Option Value)} {oc33 kV33 dc33 pm33 cd33 ct33 : Value}
    {f34 : Addr} {od34 an34 : Option Addr} {sl34 : Array (Option Value)} {oc34 kV34 dc34 pm34 cd34 ct34 : Value}
    {f35 : Addr} {od35 an35 : Option Addr} {sl35 : Array (Option Value)} {oc35 kV35 dc35 pm35 cd35 ct35 : Value}
    {f36 : Addr} {od36 an36 : Option Addr} {sl36 : Array (Option Value)} {oc36 kV36 dc36 pm36 cd36 ct36 : Value}
    {f37 : Addr} {od37 an37 : Option Addr} {sl37 : Array (Option Value)} {oc37 kV37 dc37 pm37 cd37 ct37 : Value}
    (zb_abs : PySem.W.nsIn K mainGlobals "abs" = some none)
    (zb_all : PySem.W.nsIn K mainGlobals "all" = some none)
    (zb_bool : PySem.W.nsIn K mainGlobals "bool" = some none)
    (zb_int : PySem.W.nsIn K mainGlobals "int" = some none)
    (zb_isinstance : PySem.W.nsIn K mainGlobals "isinstance" = some none)
    (zb_len : PySem.W.nsIn K mainGlobals "len" = some none)
    (zb_list : PySem.W.nsIn K mainGlobals "list" = some none)
    (zb_max : PySem.W.nsIn K mainGlobals "max" = some none)
    (zb_min : PySem.W.nsIn K mainGlobals "min" = some none)
    (zb_range : PySem.W.nsIn K mainGlobals "range" = some none)
    (zb_tuple : PySem.W.nsIn K mainGlobals "tuple" = some none)
    (xa1 : PySem.W.nsIn K mainGlobals "BadSevens" = some (some (.ref C1)))
    (xq1 : PySem.W.excIn K C1 PySem.HandSPX.veTail "ValueError.__new__" = true)
    (xk1 : PySem.W.keepIn K (.ref C1) = true)
    (xb1 : PySem.W.subIn K (.ref C1) (.type "BaseException") = some true)
    (xt1 : PySem.W.typeIn K (.ref C1) = some (.type "type"))
    (xi1 : PySem.W.isClsIn K C1 = true)
    (xs1_1 : PySem.W.subIn K (.ref C1) (.ref C1) = some true)
    (gc_MOST_PLUS : PySem.W.nsIn K mainGlobals "MOST_PLUS" = some (some (.int 30 t_MOST_PLUS)))
    (a14 : PySem.W.nsIn K mainGlobals "_law_hand" = some (some (.ref f14)))
    (l14 : K.lookup f14 = some ⟨oc14, od14, .func (PySem.W.fnOf "_law_hand" "_law_hand" (defArgs (top 14)) (defBody (top 14)) (defScope (top 14)) .none kV14 dc14 pm14 an14 cd14 ct14), sl14⟩)
    (c14 : PySem.W.codeIn K cd14 "_law_hand" = true)
    (k14 : PySem.W.keepIn K (.ref f14) = true)
    (a18 : PySem.W.nsIn K mainGlobals "_law_coming" = some (some (.ref f18)))
    (l18 : K.lookup f18 = some ⟨oc18, od18, .func (PySem.W.fnOf "_law_coming" "_law_coming" (defArgs (top 18)) (defBody (top 18)) (defScope (top 18)) .none kV18 dc18 pm18 an18 cd18 ct18), sl18⟩)
    (c18 : PySem.W.codeIn K cd18 "_law_coming" = true)
    (k18 : PySem.W.keepIn K (.ref f18) = true)
    (a24 : PySem.W.nsIn K mainGlobals "_law_saw" = some (some (.ref f24)))
    (l24 : K.lookup f24 = some ⟨oc24, od24, .func (PySem.W.fnOf "_law_saw" "_law_saw" (defArgs (top 24)) (defBody (top 24)) (defScope (top 24)) .none kV24 dc24 pm24 an24 cd24 ct24), sl24⟩)
    (c24 : PySem.W.codeIn K cd24 "_law_saw" = true)
    (k24 : PySem.W.keepIn K (.ref f24) = true)
    (a15 : PySem.W.nsIn K mainGlobals "_law_mixed" = some (some (.ref f15)))
    (l15 : K.lookup f15 = some ⟨oc15, od15, .func (PySem.W.fnOf "_law_mixed" "_law_mixed" (defArgs (top 15)) (defBody (top 15)) (defScope (top 15)) .none kV15 dc15 pm15 an15 cd15 ct15), sl15⟩)
    (c15 : PySem.W.codeIn K cd15 "_law_mixed" = true)
    (k15 : PySem.W.keepIn K (.ref f15) = true)
    (a16 : PySem.W.nsIn K mainGlobals "_law_take" = some (some (.ref f16)))
    (l16 : K.lookup f16 = some ⟨oc16, od16, .func (PySem.W.fnOf "_law_take" "_law_take" (defArgs (top 16)) (defBody (top 16)) (defScope (top 16)) .none kV16 dc16 pm16 an16 cd16 ct16), sl16⟩)
    (c16 : PySem.W.codeIn K cd16 "_law_take" = true)
    (k16 : PySem.W.keepIn K (.ref f16) = true)
    (a23 : PySem.W.nsIn K mainGlobals "_law_even" = some (some (.ref f23)))
    (l23 : K.lookup f23 = some ⟨oc23, od23, .func (PySem.W.fnOf "_law_even" "_law_even" (defArgs (top 23)) (defBody (top 23)) (defScope (top 23)) .none kV23 dc23 pm23 an23 cd23 ct23), sl23⟩)
    (c23 : PySem.W.codeIn K cd23 "_law_even" = true)
    (k23 : PySem.W.keepIn K (.ref f23) = true)
    (a28 : PySem.W.nsIn K mainGlobals "_law_far" = some (some (.ref f28)))
    (l28 : K.lookup f28 = some ⟨oc28, od28, .func (PySem.W.fnOf "_law_far" "_law_far" (defArgs (top 28)) (defBody (top 28)) (defScope (top 28)) .none kV28 dc28 pm28 an28 cd28 ct28), sl28⟩)
    (c28 : PySem.W.codeIn K cd28 "_law_far" = true)
    (k28 : PySem.W.keepIn K (.ref f28) = true)
    (a29 : PySem.W.nsIn K mainGlobals "_law_sevens" = some (some (.ref f29)))
    (l29 : K.lookup f29 = some ⟨oc29, od29, .func (PySem.W.fnOf "_law_sevens" "_law_sevens" (defArgs (top 29)) (defBody (top 29)) (defScope (top 29)) .none kV29 dc29 pm29 an29 cd29 ct29), sl29⟩)
    (c29 : PySem.W.codeIn K cd29 "_law_sevens" = true)
    (k29 : PySem.W.keepIn K (.ref f29) = true)
    (a21 : PySem.W.nsIn K mainGlobals "_law_whole" = some (some (.ref f21)))
    (l21 : K.lookup f21 = some ⟨oc21, od21, .func (PySem.W.fnOf "_law_whole" "_law_whole" (defArgs (top 21)) (defBody (top 21)) (defScope (top 21)) .none kV21 dc21 pm21 an21 cd21 ct21), sl21⟩)
    (c21 : PySem.W.codeIn K cd21 "_law_whole" = true)
    (k21 : PySem.W.keepIn K (.ref f21) = true)
    (a25 : PySem.W.nsIn K mainGlobals "_law_shape" = some (some (.ref f25)))
    (l25 : K.lookup f25 = some ⟨oc25, od25, .func (PySem.W.fnOf "_law_shape" "_law_shape" (defArgs (top 25)) (defBody (top 25)) (defScope (top 25)) .none kV25 dc25 pm25 an25 cd25 ct25), sl25⟩)
    (c25 : PySem.W.codeIn K cd25 "_law_shape" = true)
    (k25 : PySem.W.keepIn K (.ref f25) = true)
    (a30 : PySem.W.nsIn K mainGlobals "_law_near" = some (some (.ref f30)))
    (l30 : K.lookup f30 = some ⟨oc30, od30, .func (PySem.W.fnOf "_law_near" "_law_near" (defArgs (top 30)) (defBody (top 30)) (defScope (top 30)) .none kV30 dc30 pm30 an30 cd30 ct30), sl30⟩)
    (c30 : PySem.W.codeIn K cd30 "_law_near" = true)
    (k30 : PySem.W.keepIn K (.ref f30) = true)
    (a8 : PySem.W.nsIn K mainGlobals "days_ahead" = some (some (.ref f8)))
    (l8 : K.lookup f8 = some ⟨oc8, od8, .func (PySem.W.fnOf "days_ahead" "days_ahead" (defArgs (top 8)) (defBody (top 8)) (defScope (top 8)) .none kV8 dc8 pm8 an8 cd8 ct8), sl8⟩)
    (c8 : PySem.W.codeIn K cd8 "days_ahead" = true)
    (k8 : PySem.W.keepIn K (.ref f8) = true)
    (a7 : PySem.W.nsIn K mainGlobals "saw_sevens" = some (some (.ref f7)))
    (l7 : K.lookup f7 = some ⟨oc7, od7, .func (PySem.W.fnOf "saw_sevens" "saw_sevens" (defArgs (top 7)) (defBody (top 7)) (defScope (top 7)) .none kV7 dc7 pm7 an7 cd7 ct7), sl7⟩)
    (c7 : PySem.W.codeIn K cd7 "saw_sevens" = true)
    (k7 : PySem.W.keepIn K (.ref f7) = true)
    (a4 : PySem.W.nsIn K mainGlobals "is_whole" = some (some (.ref f4)))
    (l4 : K.lookup f4 = some ⟨oc4, od4, .func (PySem.W.fnOf "is_whole" "is_whole" (defArgs (top 4)) (defBody (top 4)) (defScope (top 4)) .none kV4 dc4 pm4 an4 cd4 ct4), sl4⟩)
    (c4 : PySem.W.codeIn K cd4 "is_whole" = true)
    (k4 : PySem.W.keepIn K (.ref f4) = true)
    (a9 : PySem.W.nsIn K mainGlobals "shape_of_sevens" = some (some (.ref f9)))
    (l9 : K.lookup f9 = some ⟨oc9, od9, .func (PySem.W.fnOf "shape_of_sevens" "shape_of_sevens" (defArgs (top 9)) (defBody (top 9)) (defScope (top 9)) .none kV9 dc9 pm9 an9 cd9 ct9), sl9⟩)
    (c9 : PySem.W.codeIn K cd9 "shape_of_sevens" = true)
    (k9 : PySem.W.keepIn K (.ref f9) = true)
    (a10 : PySem.W.nsIn K mainGlobals "rests_alike" = some (some (.ref f10)))
    (l10 : K.lookup f10 = some ⟨oc10, od10, .func (PySem.W.fnOf "rests_alike" "rests_alike" (defArgs (top 10)) (defBody (top 10)) (defScope (top 10)) .none kV10 dc10 pm10 an10 cd10 ct10), sl10⟩)
    (c10 : PySem.W.codeIn K cd10 "rests_alike" = true)
    (k10 : PySem.W.keepIn K (.ref f10) = true)
    (a17 : PySem.W.nsIn K mainGlobals "_law_step" = some (some (.ref f17)))
    (l17 : K.lookup f17 = some ⟨oc17, od17, .func (PySem.W.fnOf "_law_step" "_law_step" (defArgs (top 17)) (defBody (top 17)) (defScope (top 17)) .none kV17 dc17 pm17 an17 cd17 ct17), sl17⟩)
    (c17 : PySem.W.codeIn K cd17 "_law_step" = true)
    (k17 : PySem.W.keepIn K (.ref f17) = true)
    (a26 : PySem.W.nsIn K mainGlobals "_law_hop" = some (some (.ref f26)))
    (l26 : K.lookup f26 = some ⟨oc26, od26, .func (PySem.W.fnOf "_law_hop" "_law_hop" (defArgs (top 26)) (defBody (top 26)) (defScope (top 26)) .none kV26 dc26 pm26 an26 cd26 ct26), sl26⟩)
    (c26 : PySem.W.codeIn K cd26 "_law_hop" = true)
    (k26 : PySem.W.keepIn K (.ref f26) = true)
    (a19 : PySem.W.nsIn K mainGlobals "_law_last" = some (some (.ref f19)))
    (l19 : K.lookup f19 = some ⟨oc19, od19, .func (PySem.W.fnOf "_law_last" "_law_last" (defArgs (top 19)) (defBody (top 19)) (defScope (top 19)) .none kV19 dc19 pm19 an19 cd19 ct19), sl19⟩)
    (c19 : PySem.W.codeIn K cd19 "_law_last" = true)
    (k19 : PySem.W.keepIn K (.ref f19) = true)
    (a20 : PySem.W.nsIn K mainGlobals "_law_counted" = some (some (.ref f20)))
    (l20 : K.lookup f20 = some ⟨oc20, od20, .func (PySem.W.fnOf "_law_counted" "_law_counted" (defArgs (top 20)) (defBody (top 20)) (defScope (top 20)) .none kV20 dc20 pm20 an20 cd20 ct20), sl20⟩)
    (c20 : PySem.W.codeIn K cd20 "_law_counted" = true)
    (k20 : PySem.W.keepIn K (.ref f20) = true)
    (a27 : PySem.W.nsIn K mainGlobals "_law_hopped" = some (some (.ref f27)))
    (l27 : K.lookup f27 = some ⟨oc27, od27, .func (PySem.W.fnOf "_law_hopped" "_law_hopped" (defArgs (top 27)) (defBody (top 27)) (defScope (top 27)) .none kV27 dc27 pm27 an27 cd27 ct27), sl27⟩)
    (c27 : PySem.W.codeIn K cd27 "_law_hopped" = true)
    (k27 : PySem.W.keepIn K (.ref f27) = true)
    (a22 : PySem.W.nsIn K mainGlobals "_law_pick" = some (some (.ref f22)))
    (l22 : K.lookup f22 = some ⟨oc22, od22, .func (PySem.W.fnOf "_law_pick" "_law_pick" (defArgs (top 22)) (defBody (top 22)) (defScope (top 22)) .none kV22 dc22 pm22 an22 cd22 ct22), sl22⟩)
    (c22 : PySem.W.codeIn K cd22 "_law_pick" = true)
    (k22 : PySem.W.keepIn K (.ref f22) = true)
    (a31 : PySem.W.nsIn K mainGlobals "_law_most" = some (some (.ref f31)))
    (l31 : K.lookup f31 = some ⟨oc31, od31, .func (PySem.W.fnOf "_law_most" "_law_most" (defArgs (top 31)) (defBody (top 31)) (defScope (top 31)) .none kV31 dc31 pm31 an31 cd31 ct31), sl31⟩)
    (c31 : PySem.W.codeIn K cd31 "_law_most" = true)
    (k31 : PySem.W.keepIn K (.ref f31) = true)
    (a11 : PySem.W.nsIn K mainGlobals "pluses_to" = some (some (.ref f11)))
    (l11 : K.lookup f11 = some ⟨oc11, od11, .func (PySem.W.fnOf "pluses_to" "pluses_to" (defArgs (top 11)) (defBody (top 11)) (defScope (top 11)) .none kV11 dc11 pm11 an11 cd11 ct11), sl11⟩)
    (c11 : PySem.W.codeIn K cd11 "pluses_to" = true)
    (k11 : PySem.W.keepIn K (.ref f11) = true)
    (a12 : PySem.W.nsIn K mainGlobals "least_hops" = some (some (.ref f12)))
    (l12 : K.lookup f12 = some ⟨oc12, od12, .func (PySem.W.fnOf "least_hops" "least_hops" (defArgs (top 12)) (defBody (top 12)) (defScope (top 12)) .none kV12 dc12 pm12 an12 cd12 ct12), sl12⟩)
    (c12 : PySem.W.codeIn K cd12 "least_hops" = true)
    (k12 : PySem.W.keepIn K (.ref f12) = true)
    (a32 : PySem.W.nsIn K mainGlobals "_law_up" = some (some (.ref f32)))
    (l32 : K.lookup f32 = some ⟨oc32, od32, .func (PySem.W.fnOf "_law_up" "_law_up" (defArgs (top 32)) (defBody (top 32)) (defScope (top 32)) .none kV32 dc32 pm32 an32 cd32 ct32), sl32⟩)
    (c32 : PySem.W.codeIn K cd32 "_law_up" = true)
    (k32 : PySem.W.keepIn K (.ref f32) = true)
    (a33 : PySem.W.nsIn K mainGlobals "_law_fewest" = some (some (.ref f33)))
    (l33 : K.lookup f33 = some ⟨oc33, od33, .func (PySem.W.fnOf "_law_fewest" "_law_fewest" (defArgs (top 33)) (defBody (top 33)) (defScope (top 33)) .none kV33 dc33 pm33 an33 cd33 ct33), sl33⟩)
    (c33 : PySem.W.codeIn K cd33 "_law_fewest" = true)
    (k33 : PySem.W.keepIn K (.ref f33) = true)
    (a34 : PySem.W.nsIn K mainGlobals "_law_is_hop" = some (some (.ref f34)))
    (l34 : K.lookup f34 = some ⟨oc34, od34, .func (PySem.W.fnOf "_law_is_hop" "_law_is_hop" (defArgs (top 34)) (defBody (top 34)) (defScope (top 34)) .none kV34 dc34 pm34 an34 cd34 ct34), sl34⟩)
    (c34 : PySem.W.codeIn K cd34 "_law_is_hop" = true)
    (k34 : PySem.W.keepIn K (.ref f34) = true)
    (a35 : PySem.W.nsIn K mainGlobals "_law_good_hops" = some (some (.ref f35)))
    (l35 : K.lookup f35 = some ⟨oc35, od35, .func (PySem.W.fnOf "_law_good_hops" "_law_good_hops" (defArgs (top 35)) (defBody (top 35)) (defScope (top 35)) .none kV35 dc35 pm35 an35 cd35 ct35), sl35⟩)
    (c35 : PySem.W.codeIn K cd35 "_law_good_hops" = true)
    (k35 : PySem.W.keepIn K (.ref f35) = true)
    (a36 : PySem.W.nsIn K mainGlobals "_law_refused" = some (some (.ref f36)))
    (l36 : K.lookup f36 = some ⟨oc36, od36, .func (PySem.W.fnOf "_law_refused" "_law_refused" (defArgs (top 36)) (defBody (top 36)) (defScope (top 36)) .none kV36 dc36 pm36 an36 cd36 ct36), sl36⟩)
    (c36 : PySem.W.codeIn K cd36 "_law_refused" = true)
    (k36 : PySem.W.keepIn K (.ref f36) = true)
    (a37 : PySem.W.nsIn K mainGlobals "law" = some (some (.ref f37)))
    (l37 : K.lookup f37 = some ⟨oc37, od37, .func (PySem.W.fnOf "law" "law" (defArgs (top 37)) (defBody (top 37)) (defScope (top 37)) .none kV37 dc37 pm37 an37 cd37 ct37), sl37⟩)
    (c37 : PySem.W.codeIn K cd37 "law" = true)
    (k37 : PySem.W.keepIn K (.ref f37) = true)
    : Txt K mg (fun n => if n = 1 then C1 else 0) where
  b_abs := PySem.W.mg_none_of X G zb_abs
  b_all := PySem.W.mg_none_of X G zb_all
  b_bool := PySem.W.mg_none_of X G zb_bool
  b_int := PySem.W.mg_none_of X G zb_int
  b_isinstance := PySem.W.mg_none_of X G zb_isinstance
  b_len := PySem.W.mg_none_of X G zb_len
  b_list := PySem.W.mg_none_of X G zb_list
  b_max := PySem.W.mg_none_of X G zb_max
  b_min := PySem.W.mg_none_of X G zb_min
  b_range := PySem.W.mg_none_of X G zb_range
  b_tuple := PySem.W.mg_none_of X G zb_tuple
  x_BadSevens := ⟨xq1, PySem.W.mg_of X G xa1, xk1, xb1, xt1⟩
  sb := by
    intro i j b e
    unfold subT at e
    split at e
    · rename_i h; obtain ⟨rfl, rfl⟩ := h; cases e; exact exm_at xb1 xi1 xt1 xs1_1
    cases e
  g_MOST_PLUS := ⟨_, .int 30, PySem.W.mg_of X G gc_MOST_PLUS, ⟨_, rfl⟩, fun _ => .int _⟩
  d__law_hand := df_mk X G a14 l14 c14 k14 fun _ _ _ _ _ _ us hl => match us, hl with | [_], _ => rfl
  d__law_coming := df_mk X G a18 l18 c18 k18 fun _ _ _ _ _ _ us hl => match us, hl with | [_, _], _ => rfl
  d__law_saw := df_mk X G a24 l24 c24 k24 fun _ _ _ _ _ _ us hl => match us, hl with | [_, _], _ => rfl
  d__law_mixed := df_mk X G a15 l15 c15 k15 fun _ _ _ _ _ _ us hl => match us, hl with | [_, _], _ => rfl
  d__law_take := df_mk X G a16 l16 c16 k16 fun _ _ _ _ _ _ us hl => match us, hl with | [_, _], _ => rfl
  d__law_even := df_mk X G a23 l23 c23 k23 fun _ _ _ _ _ _ us hl => match us, hl with | [_], _ => rfl
  d__law_far := df_mk X G a28 l28 c28 k28 fun _ _ _ _ _ _ us hl => match us, hl with | [_, _], _ => rfl
  d__law_sevens := df_mk X G a29 l29 c29 k29 fun _ _ _ _ _ _ us hl => match us, hl with | [_, _], _ => rfl
  d__law_whole := df_mk X G a21 l21 c21 k21 fun _ _ _ _ _ _ us hl => match us, hl with | [_], _ => rfl
  d__law_shape := df_mk X G a25 l25 c25 k25 fun _ _ _ _ _ _ us hl => match us, hl with | [_], _ => rfl
  d__law_near := df_mk X G a30 l30 c30 k30 fun _ _ _ _ _ _ us hl => match us, hl with | [_, _], _ => rfl
  d_days_ahead := df_mk X G a8 l8 c8 k8 fun _ _ _ _ _ _ us hl => match us, hl with | [_, _], _ => rfl
  d_saw_sevens := df_mk X G a7 l7 c7 k7 fun _ _ _ _ _ _ us hl => match us, hl with | [_, _], _ => rfl
  d_is_whole := df_mk X G a4 l4 c4 k4 fun _ _ _ _ _ _ us hl => match us, hl with | [_], _ => rfl
  d_shape_of_sevens := df_mk X G a9 l9 c9 k9 fun _ _ _ _ _ _ us hl => match us, hl with | [_], _ => rfl
  d_rests_alike := df_mk X G a10 l10 c10 k10 fun _ _ _ _ _ _ us hl => match us, hl with | [_, _], _ => rfl
  d__law_step := df_mk X G a17 l17 c17 k17 fun _ _ _ _ _ _ us hl => match us, hl with | [_], _ => rfl
  d__law_hop := df_mk X G a26 l26 c26 k26 fun _ _ _ _ _ _ us hl => match us, hl with | [_], _ => rfl
  d__law_last := df_mk X G a19 l19 c19 k19 fun _ _ _ _ _ _ us hl => match us, hl with | [_, _], _ => rfl
  d__law_counted := df_mk X G a20 l20 c20 k20 fun _ _ _ _ _ _ us hl => match us, hl with | [_, _], _ => rfl
  d__law_hopped := df_mk X G a27 l27 c27 k27 fun _ _ _ _ _ _ us hl => match us, hl with | [_, _], _ => rfl
  d__law_pick := df_mk X G a22 l22 c22 k22 fun _ _ _ _ _ _ us hl => match us, hl with | [_, _], _ => rfl
  d__law_most := df_mk X G a31 l31 c31 k31 fun _ _ _ _ _ _ us hl => match us, hl with | [_, _], _ => rfl
  d_pluses_to := df_mk X G a11 l11 c11 k11 fun _ _ _ _ _ _ us hl => match us, hl with | [_], _ => rfl
  d_least_hops := df_mk X G a12 l12 c12 k12 fun _ _ _ _ _ _ us hl => match us, hl with | [_], _ => rfl
  d__law_up := df_mk X G a32 l32 c32 k32 fun _ _ _ _ _ _ us hl => match us, hl with | [_], _ => rfl
  d__law_fewest := df_mk X G a33 l33 c33 k33 fun _ _ _ _ _ _ us hl => match us, hl with | [_], _ => rfl
  d__law_is_hop := df_mk X G a34 l34 c34 k34 fun _ _ _ _ _ _ us hl => match us, hl with | [_], _ => rfl
  d__law_good_hops := df_mk X G a35 l35 c35 k35 fun _ _ _ _ _ _ us hl => match us, hl with | [_, _], _ => rfl
  d__law_refused := df_mk X G a36 l36 c36 k36 fun _ _ _ _ _ _ us hl => match us, hl with | [_, _], _ => rfl
  d_law := df_mk X G a37 l37 c37 k37 fun _ _ _ _ _ _ us hl => match us, hl with | [_], _ => rfl
theorem end_mk {P : Program} {w : World} {K : PySem.W.Frag} {mg : Str → Option Value} {C : Nat → Addr} (T : Txt K mg C) : ∃ (C : Nat → Addr) (st : Stmt) (df : Df K mg "law" st ["_law_script"]), ∀ base : Heap, FnOk P w K mg base (L2.CX P w) 6 df.f df.fd ["_law_script"] (spF K C 1 m_law) := ⟨C, _, T.d_law, fun base => k_all T⟩
end L21
open PySem PySem.W PyProof.Rows in
set_option maxRecDepth 100000 in
set_option maxHeartbeats 0 in
theorem PySem.Challenge.cw_whosetomorrow_k21_whole_rests_alike_and_holds : PySem.Challenge.rw_whosetomorrow_k21_whole_rests_alike_and.Holds := by
  w_on; o_law; k_head; (case hw => w_witness2)
  k_fill
  refine Rf.walk_end (l := PySem.Challenge.rw_whosetomorrow_k21_whole_rests_alike_and) (k := 6) (F := L21.m_law) rfl rfl rfl ⟨rfl, by decide, by decide⟩ (fun w h Y => PySem.W.kIn_of Y) ?F L21.law_true
  case F =>
    intro w mg h KX G
    refine' L21.end_mk (L21.txt_mk KX G ?zb_abs ?zb_all ?zb_bool ?zb_int ?zb_isinstance ?zb_len ?zb_list ?zb_max ?zb_min ?zb_range ?zb_tuple ?xa1 ?xq1 ?xk1 ?xb1 ?xt1 ?xi1 ?xs1_1 ?gc_MOST_PLUS ?a14 ?l14 ?c14 ?k14 ?a18 ?l18 ?c18 ?k18 ?a24 ?l24 ?c24 ?k24 ?a15 ?l15 ?c15 ?k15 ?a16 ?l16 ?c16 ?k16 ?a23 ?l23 ?c23 ?k23 ?a28 ?l28 ?c28 ?k28 ?a29 ?l29 ?c29 ?k29 ?a21 ?l21 ?c21 ?k21 ?a25 ?l25 ?c25 ?k25 ?a30 ?l30 ?c30 ?k30 ?a8 ?l8 ?c8 ?k8 ?a7 ?l7 ?c7 ?k7 ?a4 ?l4 ?c4 ?k4 ?a9 ?l9 ?c9 ?k9 ?a10 ?l10 ?c10 ?k10 ?a17 ?l17 ?c17 ?k17 ?a26 ?l26 ?c26 ?k26 ?a19 ?l19 ?c19 ?k19 ?a20 ?l20 ?c20 ?k20 ?a27 ?l27 ?c27 ?k27 ?a22 ?l22 ?c22 ?k22 ?a31 ?l31 ?c31 ?k31 ?a11 ?l11 ?c11 ?k11 ?a12 ?l12 ?c12 ?k12 ?a32 ?l32 ?c32 ?k32 ?a33 ?l33 ?c33 ?k33 ?a34 ?l34 ?c34 ?k34 ?a35 ?l35 ?c35 ?k35 ?a36 ?l36 ?c36 ?k36 ?a37 ?l37 ?c37 ?k37)
    (case zb_abs => k_is)
    (case zb_all => k_is)
    (case zb_bool => k_is)
    (case zb_int => k_is)
    (case zb_isinstance => k_is)
    (case zb_len => k_is)
    (case zb_list => k_is)
    (case zb_max => k_is)
    (case zb_min => k_is)
    (case zb_range => k_is)
    (case zb_tuple => k_is)
    (case xa1 => k_is)
    (case xq1 => k_exc)
    (case xk1 => k_is)
    (case xb1 => k_is)
    (case xt1 => k_is)
    (case xi1 => k_is)
    (case xs1_1 => (first | rfl | k_is))
    (case gc_MOST_PLUS => k_is)
    (case a14 => k_is)
    (case l14 => k_is)
    (case c14 => k_is)
    (case k14 => k_is)
    (case a18 => k_is)
    (case l18 => k_is)
    (case c18 => k_is)
    (case k18 => k_is)
    (case a24 => k_is)
    (case l24 => k_is)
    (case c24 => k_is)
    (case k24 => k_is)
    (case a15 => k_is)
    (case l15 => k_is)
    (case c15 => k_is)
    (case k15 => k_is)
    (case a16 => k_is)
    (case l16 => k_is)
    (case c16 => k_is)
    (case k16 => k_is)
    (case a23 => k_is)
    (case l23 => k_is)
    (case c23 => k_is)
    (case k23 => k_is)
    (case a28 => k_is)
    (case l28 => k_is)
    (case c28 => k_is)
    (case k28 => k_is)
    (case a29 => k_is)
    (case l29 => k_is)
    (case c29 => k_is)
    (case k29 => k_is)
    (case a21 => k_is)
    (case l21 => k_is)
    (case c21 => k_is)
    (case k21 => k_is)
    (case a25 => k_is)
    (case l25 => k_is)
    (case c25 => k_is)
    (case k25 => k_is)
    (case a30 => k_is)
    (case l30 => k_is)
    (case c30 => k_is)
    (case k30 => k_is)
    (case a8 => k_is)
    (case l8 => k_is)
    (case c8 => k_is)
    (case k8 => k_is)
    (case a7 => k_is)
    (case l7 => k_is)
    (case c7 => k_is)
    (case k7 => k_is)
    (case a4 => k_is)
    (case l4 => k_is)
    (case c4 => k_is)
    (case k4 => k_is)
    (case a9 => k_is)
    (case l9 => k_is)
    (case c9 => k_is)
    (case k9 => k_is)
    (case a10 => k_is)
    (case l10 => k_is)
    (case c10 => k_is)
    (case k10 => k_is)
    (case a17 => k_is)
    (case l17 => k_is)
    (case c17 => k_is)
    (case k17 => k_is)
    (case a26 => k_is)
    (case l26 => k_is)
    (case c26 => k_is)
    (case k26 => k_is)
    (case a19 => k_is)
    (case l19 => k_is)
    (case c19 => k_is)
    (case k19 => k_is)
    (case a20 => k_is)
    (case l20 => k_is)
    (case c20 => k_is)
    (case k20 => k_is)
    (case a27 => k_is)
    (case l27 => k_is)
    (case c27 => k_is)
    (case k27 => k_is)
    (case a22 => k_is)
    (case l22 => k_is)
    (case c22 => k_is)
    (case k22 => k_is)
    (case a31 => k_is)
    (case l31 => k_is)
    (case c31 => k_is)
    (case k31 => k_is)
    (case a11 => k_is)
    (case l11 => k_is)
    (case c11 => k_is)
    (case k11 => k_is)
    (case a12 => k_is)
    (case l12 => k_is)
    (case c12 => k_is)
    (case k12 => k_is)
    (case a32 => k_is)
    (case l32 => k_is)
    (case c32 => k_is)
    (case k32 => k_is)
    (case a33 => k_is)
    (case l33 => k_is)
    (case c33 => k_is)
    (case k33 => k_is)
    (case a34 => k_is)
    (case l34 => k_is)
    (case c34 => k_is)
    (case k34 => k_is)
    (case a35 => k_is)
    (case l35 => k_is)
    (case c35 => k_is)
    (case k35 => k_is)
    (case a36 => k_is)
    (case l36 => k_is)
    (case c36 => k_is)
    (case k36 => k_is)
    (case a37 => k_is)
    (case l37 => k_is)
    (case c37 => k_is)
    (case k37 => k_is)
